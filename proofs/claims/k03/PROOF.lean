import PyProof.Rows.All
import Wide.All
import OpenK.AllK
import Wide.FinOn
import KE.KStateDown
import Lean
import HandS.ForMost
import HandS.Exc
import HandS.TryOnly
import HandS.ExcOwn
import HandS.WordsExc
import HandS.Defaults
import HandS.Wide
import HandS.IsInst
import HandS.TupLe
import HandS.TupAny
import HandS.Walk
import HandS.More
import HandS.Evl
import HandS.EndBits
import HandS.Head0
import HandS.Head1
import HandS.Head2
import HandS.HeadEnd
import HandS.HeadHook1
import HandS.HeadHook2
import HandS.ExcInit
import HandS.Style
import HandS.ExcField
import HandS.TryMany
import HandS.TupMul
import KE.KDictList
import KE.GoesMore
import KE.GoesEnum
import HandS.ExcIs
import HandS.CallSlots
import KE.KExcIs
import PySem.Challenge.RW_earlyfields_k03_bodies_refused
set_option Elab.async false
set_option linter.all false
set_option maxRecDepth 100000
set_option maxHeartbeats 4000000
/-! own base: short names for readings, the bundle of a def's promise, the hook with own tests, the end -/
namespace Ef
open PySem PySem.Spec PyProof.Rows L2
/-! ### operators on values -/
abbrev rAddI : R2 := rI0 fun a b => .int (a + b)
abbrev rSubI : R2 := rI0 fun a b => .int (a - b)
abbrev rMulI : R2 := rI CMul fun a b => .int (a * b)
abbrev rMulW : R2 := rI CMulW fun a b => .int (a * b)
abbrev rModI : R2 := rI (fun _ b => 0 < b) fun a b => .int (a % b)
abbrev rDivI : R2 := rI CDiv fun a b => .int (a / b)
abbrev rDivW : R2 := rI CDivW fun a b => .int (a / b)
abbrev rPowI : R2 := rI CPow fun a b => .int (a ^ b.toNat)
abbrev rLtI : R2 := rI0 fun a b => .bl (decide (a < b))
abbrev rLeI : R2 := rI0 fun a b => .bl (decide (a ≤ b))
abbrev rGtI : R2 := rI0 fun a b => .bl (decide (b < a))
abbrev rGeI : R2 := rI0 fun a b => .bl (decide (b ≤ a))
abbrev rNegI : V → Hp → VK → Prop := rU fun a => .int (-a)
abbrev rAddSt : R2 := fun u v G k => ∃ a b, u = .str a ∧ v = .str b ∧ a.length + b.length ≤ sizeLine ∧ k (.str (a ++ b)) G
abbrev rInSign : R2 := fun u v G k => ∃ (a : Nat) (z : Str), u = .str ⟨#[a]⟩ ∧ v = .str z ∧ k (.bl (decide (a ∈ z.cps.toList))) G
abbrev rNotInSign : R2 := fun u v G k => ∃ (a : Nat) (z : Str), u = .str ⟨#[a]⟩ ∧ v = .str z ∧ k (.bl (!decide (a ∈ z.cps.toList))) G
abbrev rIsBl : R2 := fun u v G k => ∃ a b, u = .bl a ∧ v = .bl b ∧ k (.bl (decide (a = b))) G
abbrev rIsNotBl : R2 := fun u v G k => ∃ a b, u = .bl a ∧ v = .bl b ∧ k (.bl (!decide (a = b))) G
abbrev rIsNo : R2 := fun u v G k => v = .non ∧ k (.bl (decide (u = .non))) G
abbrev rIsNotNo : R2 := fun u v G k => v = .non ∧ k (.bl (!decide (u = .non))) G
/-! ### built-ins on values -/
abbrev rLenStr : List V → Hp → VK → Prop := fun us G k => ∃ z, us = [.str z] ∧ z.length ≤ sizeLine ∧ k (.int z.length) G
abbrev rLenSq (K : PySem.W.Frag) : List V → Hp → VK → Prop := fun us G k => ∃ a zs, us = [.ref a] ∧ (SqL K G a zs ∨ SqT K G a zs) ∧ k (.int zs.length) G
abbrev rAbsI : List V → Hp → VK → Prop := fun us G k => ∃ a, us = [.int a] ∧ k (.int (if a < 0 then -a else a)) G
abbrev rMaxI2 : List V → Hp → VK → Prop := fun us G k => ∃ a b, us = [.int a, .int b] ∧ k (.int (if b > a then b else a)) G
abbrev rMinI2 : List V → Hp → VK → Prop := fun us G k => ∃ a b, us = [.int a, .int b] ∧ k (.int (if b < a then b else a)) G
abbrev rIntOf : List V → Hp → VK → Prop := fun us G k => (∃ a, us = [.int a] ∧ k (.int a) G) ∨ ∃ b, us = [.bl b] ∧ k (.int (if b then 1 else 0)) G
abbrev rStrOfI : List V → Hp → VK → Prop := fun us G k => ∃ a, us = [.int a] ∧ a.natAbs.log2 < 1920 ∧ k (.str (toString a)) G
abbrev rListOf (K : PySem.W.Frag) : List V → Hp → VK → Prop := fun us G k => ∃ a zs, us = [.ref a] ∧ (SqL K G a zs ∨ SqT K G a zs) ∧ ∀ l, G l = none → k (.ref l) (upd G l (.lst zs))
abbrev rTupOf (K : PySem.W.Frag) : List V → Hp → VK → Prop := fun us G k => ∃ a zs, us = [.ref a] ∧ ((SqL K G a zs ∧ ∀ l, G l = none → k (.ref l) (upd G l (.tup zs))) ∨ (SqT K G a zs ∧ k (.ref a) G))
abbrev rStarts : V → List V → Hp → VK → Prop := fun u us G k => ∃ a b, u = .str a ∧ us = [.str b] ∧ k (.bl (Txt.startswith a b)) G
abbrev rEnds : V → List V → Hp → VK → Prop := fun u us G k => ∃ a b, u = .str a ∧ us = [.str b] ∧ k (.bl (Txt.endswith a b)) G
abbrev rPartn : V → List V → Hp → VK → Prop := fun u us G k => ∃ a b, u = .str a ∧ us = [.str b] ∧ (b.length == 0) = false ∧ a.length ≤ sizeLine ∧ ∀ p, G p = none → k (.ref p) (upd G p (.tup [.str (Txt.partition a b).1, .str (Txt.partition a b).2.1, .str (Txt.partition a b).2.2]))
abbrev rSplt : V → List V → Hp → VK → Prop := fun u us G k => ∃ a b, u = .str a ∧ us = [.str b] ∧ (b.length == 0) = false ∧ a.length + 2 ≤ sizeLine ∧ rNewStrs (Txt.split a b) G k
abbrev rJoinS (K : PySem.W.Frag) : V → List V → Hp → VK → Prop := fun u us G k => ∃ a p, ∃ ys : List Str, u = .str a ∧ us = [.ref p] ∧ (SqL K G p (ys.map V.str) ∨ SqT K G p (ys.map V.str)) ∧ (ys.map (·.length)).sum + ys.length * a.length ≤ 16777216 ∧ k (.str (Txt.join a ys)) G
abbrev tTru (K : PySem.W.Frag) (ta : TE) : TT := fun σ G k => ta σ G fun u G' => ∃ b, TruV K u G' b ∧ k b G'
/-! ### a def of the module with its promise -/
structure Cal (P : Program) (w : World) (K : PySem.W.Frag) (mg : Str → Option Value) (base : Heap) (CX : CXT) (k : Nat) (x : Str) (ps : List Str) (sp : Sp) : Prop where
  ex : ∃ fd, FnOk P w K mg base CX k (He.ga K x) fd ps sp ∧ Binds K fd ps []
  g : mg x = some (.ref (He.ga K x))
  kp : PySem.W.keepIn K (.ref (He.ga K x)) = true
section
variable {X : Cx} {k j : Nat} {x : Str} {ps : List Str} {sp : Sp} {p pos : Pos} {e : Expr} {es : List Expr} {t : TA}
theorem pf_call (c : Cal X.prog X.w X.K X.mg X.base CX0 k x ps sp) (hr : Room j X.A) (hk : k ≤ j) (hg : Gl X x) (ha : PA X (e :: es) t)
    (hdb : (x == ("__debug__" : Str)) = false := by decide) (he : starEach (e :: es) X.env = (false, eval e X.env) :: starEach es X.env := by rfl) (hpl : (backTo pos (starEach es X.env)).any (·.1) = false := by rfl) :
    PE X (.Call (.Name x p) (e :: es) [] pos) (tCall sp [] E0 t) := by
  obtain ⟨fd, F, b⟩ := c.ex
  exact pe_call F (hr.mono hk) hg c.g c.kp b .nil pass0 ha hdb he hpl
theorem pf_call0 (c : Cal X.prog X.w X.K X.mg X.base CX0 k x ps sp) (hr : Room j X.A) (hk : k ≤ j) (hg : Gl X x)
    (hdb : (x == ("__debug__" : Str)) = false := by decide) : PE X (.Call (.Name x p) [] [] pos) (tCall sp [] E0 tNil) := by
  obtain ⟨fd, F, b⟩ := c.ex
  exact pe_call0 F (hr.mono hk) hg c.g c.kp b .nil pass0 hdb
theorem pe_gc {v : V} (hg : Gl X x) (h : ∃ u, X.mg x = some u ∧ RelV v u) (hd : (x == ("__debug__" : Str)) = false := by decide) : PE X (.Name x pos) (tC v) := by
  obtain ⟨u, hm, r⟩ := h
  exact pe_glob hg hm r hd
end
/-! ### a def of the top keeps its promise -/
abbrev FnP (K : PySem.W.Frag) (x : Str) (st : Stmt) : Prop := ∃ fd, FunD K x x (defArgs st) (defBody st) (defScope st) [] [] (He.ga K x) fd
theorem fn_mk {P : Program} {w : World} {K : PySem.W.Frag} {mg : Str → Option Value} {base : Heap} {x : Str} {st : Stmt} {N ps : List Str} {k : Nat} {sp : Sp} {fd : FuncData} (F : FunD K x x (defArgs st) (defBody st) (defScope st) [] [] (He.ga K x) fd) (S : FnScope N ps (defScope st))
    (len : ∀ vs H Q E, sp vs H Q E → vs.length = ps.length)
    (hbody : ∀ (cdv : Value) (A : Around) (outer : List Env) (s : Shared) (H : Hp) (vs : List V) (Q : VK) (E : XK), Room k (A.deeper (envOfC x (defScope st) s.heap.objs.size (He.ga K x) cdv)) → sp vs H Q E →
      ∃ t, PSs (cxOf CX0 P w K mg base N x (defScope st) (He.ga K x) cdv A outer s H E).nox (defBody st) t ∧ t { nx := fun _ H' => Q .non H', rt := Q } (start N vs) H) : FnOk P w K mg base CX0 (k + 1) (He.ga K x) fd ps sp :=
  F.ok S len fun cdv A outer s H vs Q E hr h => by
    obtain ⟨t, h1, h2⟩ := hbody cdv A outer s H vs Q E hr h
    exact ⟨t, h1.nox, h2⟩
theorem cal_mk {P : Program} {w : World} {K : PySem.W.Frag} {mg : Str → Option Value} {base : Heap} {x : Str} {st : Stmt} {N ps : List Str} {k : Nat} {sp : Sp} (F : FnP K x st) (g : mg x = some (.ref (He.ga K x))) (S : FnScope N ps (defScope st))
    (len : ∀ vs H Q E, sp vs H Q E → vs.length = ps.length)
    (hb : ∀ (kV doc pm : Value) (an : Option Addr) (cdv ct : Value) (us : List Value), us.length = ps.length → bindArgs (PySem.W.fnOf x x (defArgs st) (defBody st) (defScope st) .none kV doc pm an cdv ct) ⟨us, []⟩ = pure (ps.zip us))
    (hbody : ∀ (cdv : Value) (A : Around) (outer : List Env) (s : Shared) (H : Hp) (vs : List V) (Q : VK) (E : XK), Room k (A.deeper (envOfC x (defScope st) s.heap.objs.size (He.ga K x) cdv)) → sp vs H Q E →
      ∃ t, PSs (cxOf CX0 P w K mg base N x (defScope st) (He.ga K x) cdv A outer s H E).nox (defBody st) t ∧ t { nx := fun _ H' => Q .non H', rt := Q } (start N vs) H) : Cal P w K mg base CX0 (k + 1) x ps sp := by
  obtain ⟨fd, F⟩ := F
  exact ⟨⟨fd, fn_mk F S len hbody, F.bindsN hb⟩, g, F.kp⟩
/-! ### the hook: facts by names, defs, own tests of the written part -/
abbrev AlB : Type := He.AlD × List Bool
def obsB (fa : List He.Fa) (fn : List He.DefD) (bs : List (PySem.W.Frag → Bool)) (K : PySem.W.Frag) : AlB := (He.obsD fa fn K, bs.map fun b => b K)
def valB (fn : List He.DefD) (bs : List (PySem.W.Frag → Bool)) : AlB := (He.valD fn, bs.map fun _ => true)
def obsBG (n : Nat) (fa : List He.Fa) (fn : List He.DefD) (bs : List (PySem.W.Frag → Bool)) (g : Addr → Option Obj) : AlB := obsB fa fn bs (He.frG g (He.asD g n))
def SaysB (fa : List He.Fa) (fn : List He.DefD) (bs : List (PySem.W.Frag → Bool)) (K : PySem.W.Frag) : Prop := obsB fa fn bs K = valB fn bs
def hookB (n : Nat) (fa : List He.Fa) (fn : List He.DefD) (bs : List (PySem.W.Frag → Bool)) : PySem.W.Hook where
  α := AlB
  obs := fun s => obsBG n fa fn bs s.heap.get?
  val := fun _ => valB fn bs
  says := fun _ h => ∃ K : PySem.W.Frag, K.In h ∧ SaysB fa fn bs K
  of := fun _ _ e => ⟨_, He.frG_in, e⟩
  keeps := fun _ _ _ ⟨K, hK, c⟩ k => ⟨K, PySem.W.Frag.In.keeps hK k, c⟩
theorem obsBG_eq {n : Nat} {fa : List He.Fa} {fn : List He.DefD} {bs : List (PySem.W.Frag → Bool)} {g : Addr → Option Obj} {s : Shared} (h : ∀ a, g a = s.heap.get? a) : obsBG n fa fn bs g = (hookB n fa fn bs).obs s := by
  have e : g = s.heap.get? := funext h
  rw [e] <;> rfl
section
variable {fa : List He.Fa} {fn : List He.DefD} {bs : List (PySem.W.Frag → Bool)} {K : PySem.W.Frag}
theorem SaysB.d (c : SaysB fa fn bs K) : He.SaysD fa fn K := congrArg (fun z : AlB => z.1) c
theorem SaysB.b (c : SaysB fa fn bs K) (i : Nat) {b : PySem.W.Frag → Bool} (h : bs[i]? = some b := by rfl) : b K = true := by
  have e : bs.map (fun b => b K) = bs.map fun _ => true := congrArg (fun z : AlB => z.2) c
  have e2 : (bs.map fun b => b K)[i]? = (bs.map fun _ => true)[i]? := by rw [e]
  rw [List.getElem?_map, List.getElem?_map, h] at e2
  exact Option.some.inj e2
end
/-! ### the end: facts by a hook, the script's bits told -/
theorem walk_ends {l : PySem.W.OpenLaw} {n k : Nat} {q : Program} {loose : List Str} {XP : (Str → Option Value) → Heap → Prop} {YP : World → Heap → Prop} {d : DefRec} {CX : World → CXT} {x : Str}
    (hn : l.most = some n) (hn2 : n ≤ sizeLine) (hdf : d.params.defaults = []) (hr : Room k callerA)
    (F : ∀ (w : World) (mg : Str → Option Value) (fa : Addr) (h : Heap), YP w h → h.Ns mainGlobals mg → mg d.name = some (.ref fa) →
      ∃ (K : PySem.W.Frag) (fd : FuncData) (sp : Sp), K.In h ∧ (∀ (s : Shared) (u : Value), BindsTo s fd ⟨[u], []⟩ [(x, u)]) ∧
        (∀ (H : Hp) (a : Addr) (ns : List Int), ns.length ≤ n → (∀ z ∈ ns, Builtin.Int.intBits z ≤ 1048576) → Only H → SqL K H a (ns.map V.int) → sp [.ref a] H (fun v _ => v = .bl true) fun _ _ _ => False) ∧
        ∀ base : Heap, K.In base → base.Ns mainGlobals mg → FnOk l.prog w K mg base (CX w) k fa fd [x] sp)
    (hCX : ∀ (w : World) (H : Hp) (s : Shared) (e : Value) (s' : Shared), CX w [] H s (fun _ _ _ => False) e s' → False) :
    PySem.W.WalkO q loose XP YP l.row.toRowW d [] (fun f vs => PySem.call f vs) := by
  refine Att.attach_callB hn hdf fun w s0 s1 mg mb fa o pm cd doc a vs ns G Y ho hd hcd hmg hobj hints hlen hbits hg => ?_
  obtain ⟨K, fd, sp, KX, hb, hsp, hF⟩ := F w mg fa _ Y G.T.g hmg
  exact law_call KX G.T.g G.T.b G.T.builtins G.T.nolimit hg hobj hints (Nat.le_trans hlen hn2) hr hF hb (fun H hO hS => hsp H a ns hlen hbits hO hS) fun H e s' => hCX w H s1 e s'
end Ef

/-! readings that evaluate: own rows -/
namespace Ef
open PySem PySem.Spec PyProof.Rows L2 Evl
section
variable {K : PySem.W.Frag} {σ : L2.St} {H H' : Hp} {ta tb tc te tl : TE} {t u : TT} {x y z v : V} {r : R2} {D : Ends} {tz tu : TS}
theorem take_succ {α : Type} {l : List α} {i : Nat} {x : α} (h : l[i]? = some x) : l.take (i + 1) = l.take i ++ [x] := by
  rw [List.take_add_one, h]; rfl
theorem rc_lenStr {z : Str} (h : z.length ≤ 100000) : RC rLenStr [.str z] H (.int z.length) := fun H1 _ _ q => ⟨z, rfl, sz_of h, q H1 (Ex.refl H1)⟩
theorem ev_lenStr {z : Str} (h : Ev te σ H (.str z)) (hl : z.length ≤ 100000) : Ev (tCB rLenStr (tCons te tNil)) σ H (.int z.length) := ev_cb (ea_cons h ea_nil) (rc_lenStr hl)
theorem ev_lenSq {a : Addr} {xs : List V} (h : Ev te σ H (.ref a)) (hs : SqL K H a xs ∨ SqT K H a xs) : Ev (tCB (rLenSq K) (tCons te tNil)) σ H (.int xs.length) := ev_cb (ea_cons h ea_nil) fun H1 e _ q => ⟨a, xs, rfl, hs.imp (ex_l e) (ex_t e), q H1 (Ex.refl H1)⟩
theorem ev_chain2 {a b : Bool} {r' : R2} {w : V} (h1 : Ev ta σ H x) (h2 : Ev tb σ H y) (h3 : Ev tc σ H w) (ho : RV r x y H (.bl a)) (ho' : RV r' y w H (.bl b)) : Ev (tChain r r' ta tb tc) σ H (.bl (a && b)) := fun H1 e Q q =>
  h1 H1 e _ fun H2 e2 => h2 H2 (e.trans e2) _ fun H3 e3 => ho H3 ((e.trans e2).trans e3) _ fun H4 e4 => ⟨a, rfl, by
    cases a with
    | true =>
      show tc σ H4 _
      refine h3 H4 (((e.trans e2).trans e3).trans e4) _ fun H5 e5 => ho' H5 ((((e.trans e2).trans e3).trans e4).trans e5) _ fun H6 e6 => q H6 ((((e2.trans e3).trans e4).trans e5).trans e6)
    | false =>
      show Q (.bl false) H4
      exact q H4 ((e2.trans e3).trans e4)⟩
theorem rv_inSign {c : Nat} {z : Str} : RV rInSign (.str ⟨#[c]⟩) (.str z) H (.bl (decide (c ∈ z.cps.toList))) := fun H1 _ _ q => ⟨c, z, rfl, rfl, q H1 (Ex.refl H1)⟩
theorem rv_notInSign {c : Nat} {z : Str} : RV rNotInSign (.str ⟨#[c]⟩) (.str z) H (.bl (!decide (c ∈ z.cps.toList))) := fun H1 _ _ q => ⟨c, z, rfl, rfl, q H1 (Ex.refl H1)⟩
theorem rv_addSt {a b : Str} (h : a.length + b.length ≤ 100000) : RV rAddSt (.str a) (.str b) H (.str (a ++ b)) := fun H1 _ _ q => ⟨a, b, rfl, rfl, sz_of h, q H1 (Ex.refl H1)⟩
theorem ev_add {i j : Int} (ha : Ev ta σ H (.int i)) (hb : Ev tb σ H (.int j)) : Ev (tOp rAddI ta tb) σ H (.int (i + j)) := ev_op ha hb rv_I0
theorem ev_sub {i j : Int} (ha : Ev ta σ H (.int i)) (hb : Ev tb σ H (.int j)) : Ev (tOp rSubI ta tb) σ H (.int (i - j)) := ev_op ha hb rv_I0
theorem ev_mul {i j : Int} (ha : Ev ta σ H (.int i)) (hb : Ev tb σ H (.int j)) (h : CMul i j) : Ev (tOp rMulI ta tb) σ H (.int (i * j)) := ev_op ha hb (rv_I h)
theorem ev_mod {i j : Int} (ha : Ev ta σ H (.int i)) (hb : Ev tb σ H (.int j)) (h : 0 < j) : Ev (tOp rModI ta tb) σ H (.int (i % j)) := ev_op ha hb (rv_I (C := fun _ b => 0 < b) h)
theorem ev_div {i j : Int} (ha : Ev ta σ H (.int i)) (hb : Ev tb σ H (.int j)) (h : CDiv i j) : Ev (tOp rDivI ta tb) σ H (.int (i / j)) := ev_op ha hb (rv_I h)
theorem ev_divW {i j : Int} (ha : Ev ta σ H (.int i)) (hb : Ev tb σ H (.int j)) (h : CDivW i j) : Ev (tOp rDivW ta tb) σ H (.int (i / j)) := ev_op ha hb (rv_I h)
theorem ev_pow {i j : Int} (ha : Ev ta σ H (.int i)) (hb : Ev tb σ H (.int j)) (h : CPow i j) : Ev (tOp rPowI ta tb) σ H (.int (i ^ j.toNat)) := ev_op ha hb (rv_I h)
theorem ev_addSt {a b : Str} (ha : Ev ta σ H (.str a)) (hb : Ev tb σ H (.str b)) (h : a.length + b.length ≤ 100000) : Ev (tOp rAddSt ta tb) σ H (.str (a ++ b)) := ev_op ha hb (rv_addSt h)
theorem ev_intOf {i : Int} (h : Ev te σ H (.int i)) : Ev (tCB rIntOf (tCons te tNil)) σ H (.int i) := ev_cb (ea_cons h ea_nil) fun H1 _ _ q => .inl ⟨i, rfl, q H1 (Ex.refl H1)⟩
theorem ev_abs {i : Int} (h : Ev te σ H (.int i)) : Ev (tCB rAbsI (tCons te tNil)) σ H (.int (if i < 0 then -i else i)) := ev_cb (ea_cons h ea_nil) fun H1 _ _ q => ⟨i, rfl, q H1 (Ex.refl H1)⟩
theorem ev_max {i j : Int} (ha : Ev ta σ H (.int i)) (hb : Ev tb σ H (.int j)) : Ev (tCB rMaxI2 (tCons ta (tCons tb tNil))) σ H (.int (if j > i then j else i)) := ev_cb (ea_cons ha (ea_cons hb ea_nil)) fun H1 _ _ q => ⟨i, j, rfl, q H1 (Ex.refl H1)⟩
theorem ev_min {i j : Int} (ha : Ev ta σ H (.int i)) (hb : Ev tb σ H (.int j)) : Ev (tCB rMinI2 (tCons ta (tCons tb tNil))) σ H (.int (if j < i then j else i)) := ev_cb (ea_cons ha (ea_cons hb ea_nil)) fun H1 _ _ q => ⟨i, j, rfl, q H1 (Ex.refl H1)⟩
theorem ev_slS {z : Str} {t1 t2 : TO} {lo hi : Option Int} (h : Ev te σ H (.str z)) (h1 : EvO t1 σ H lo) (h2 : EvO t2 σ H hi) (hz : z.length ≤ 100000) : Ev (tSl rSlS te t1 t2) σ H (.str (cutS z lo hi)) := fun H1 e Q q =>
  h H1 e _ fun H2 e2 => h1 H2 (e.trans e2) _ fun H3 e3 => h2 H3 ((e.trans e2).trans e3) _ fun H4 e4 => ⟨z, rfl, sz_of hz, q H4 ((e2.trans e3).trans e4)⟩
theorem ev_starts {a b : Str} (h : Ev ta σ H (.str a)) (h1 : Ev tb σ H (.str b)) : Ev (tM1 rStarts ta tb) σ H (.bl (Txt.startswith a b)) := fun H1 e Q q =>
  h H1 e _ fun H2 e2 => ⟨⟨a, rfl⟩, h1 H2 (e.trans e2) _ fun H3 e3 => ⟨a, b, rfl, rfl, q H3 (e2.trans e3)⟩⟩
theorem ev_all {bs : List Bool} (h : EvL te σ H (bs.map V.bl)) : Ev (tCB (rAll K) (tCons te tNil)) σ H (.bl (bs.all id)) := fun H1 e Q q =>
  h H1 e _ fun p H2 hp e2 h2 => ⟨p, bs, rfl, sq_of h2, q H2 e2⟩
theorem ev_any {bs : List Bool} (h : EvL te σ H (bs.map V.bl)) : Ev (tCB (rAny K) (tCons te tNil)) σ H (.bl (bs.any id)) := fun H1 e Q q =>
  h H1 e _ fun p H2 hp e2 h2 => ⟨p, bs, rfl, sq_of h2, q H2 e2⟩
theorem ev_isi {n : String} {tv : Value} {b : Bool} (h : Ev te σ H x) (ht : ∀ H1, Ex H H1 → TyX K H1 x tv) (hk : PySem.W.kitOne K tv (.type n) = some b) : Ev (tCB (rIsi K) (tCons te (tCons (tC (.ty n)) tNil))) σ H (.bl b) :=
  ev_cb (ea_cons h (ea_cons ev_c ea_nil)) fun H1 e _ q => ⟨x, .ty n, tv, .type n, b, rfl, .ty n, ht H1 e, hk, q H1 (Ex.refl H1)⟩
theorem et_tru {b : Bool} (h : Ev te σ H x) (hb : ∀ H1, Ex H H1 → TruV K x H1 b) : EvT (tTru K te) σ H b := fun H1 e _ q => h H1 e _ fun H2 e2 => ⟨b, hb H2 (e.trans e2), q H2 e2⟩
/-- a comprehension over a text -/
theorem el_lcS {z : Str} {j : Nat} {vs : List Nat} (f : Nat → Bool) (v : Nat → V) (h : Ev tl σ H (.str z)) (hz : z.length ≤ 100000) (hw : ∀ x, wipe ((wipe σ vs).set j (some x)) vs = wipe σ vs)
    (ht : ∀ c, EvT t ((wipe σ vs).set j (some (.str ⟨#[c]⟩))) H (f c)) (he : ∀ c, f c = true → Ev te ((wipe σ vs).set j (some (.str ⟨#[c]⟩))) H (v c)) :
    EvL (tLc (iStr tl) (gName j) t te vs) σ H ((z.cps.toList.filter f).map v) := fun H0 e Q q => h H0 e _ fun H1 e1 => ⟨z, rfl, fun Dl hD =>
  lc_it walk_str (fun i H' => H1 Dl = none ∧ Ex H1 H' ∧ H' Dl = some (.lst (((z.cps.toList.take i).filter f).map v)))
    ⟨hD, Ex.new hD, upd_same⟩ (fun _ _ _ _ => trivial)
    (fun i x G G' hi p hy => by
      obtain ⟨rfl, c, hc, rfl⟩ := hy
      obtain ⟨p1, p2, p3⟩ := p
      have hc2 : z.cps.toList[i]? = some c := by rw [Array.getElem?_toList]; exact hc
      have hlen : (z.cps.toList.take i).length ≤ 100000 := by
        rw [List.length_take]
        have : z.cps.toList.length = z.length := by simp [Str.length]
        omega
      refine ⟨hw _, ht c _ ((e.trans e1).trans p2) _ fun H3 e3 => ?_⟩
      cases hf : f c with
      | true =>
        refine he c hf H3 (((e.trans e1).trans p2).trans e3) _ fun H4 e4 => ⟨_, (e4 _ _ (e3 _ _ p3)), Nat.lt_of_le_of_lt ?_ (show 100000 < sizeLine by decide), p1, ?_, ?_⟩
        · rw [List.length_map]; exact Nat.le_trans (List.length_filter_le _ _) hlen
        · exact Ex.mut (p2.trans (e3.trans e4)) p1
        · rw [upd_same, take_succ hc2, List.filter_append, List.map_append, List.filter_cons, if_pos hf] <;> rfl
      | false =>
        refine ⟨p1, p2.trans e3, ?_⟩
        rw [e3 _ _ p3, take_succ hc2, List.filter_append, List.map_append, List.filter_cons, if_neg (by rw [hf]; decide)]
        simp)
    (fun H' p => by
      obtain ⟨p1, p2, p3⟩ := p
      refine q Dl H' (fresh_back e1 p1) (e1.trans p2) ?_
      have : z.cps.toList.take z.cps.size = z.cps.toList := List.take_of_length_le (by simp)
      rw [p3, this])⟩
end
end Ef

/-! methods, makings, own errors with fields: bundles and rules -/
namespace Ef
open PySem PySem.Spec PyProof.Rows L2
abbrev FnM (K : PySem.W.Frag) (c m qn : Str) (st : Stmt) : Prop := ∃ fd, FunD K m qn (defArgs st) (defBody st) (defScope st) [] [] (He.ma K (He.ga K c) m) fd
structure Met (P : Program) (w : World) (K : PySem.W.Frag) (mg : Str → Option Value) (base : Heap) (CX : CXT) (k : Nat) (C : Addr) (m : Str) (ps : List Str) (sp : Sp) : Prop where
  ex : ∃ fd, FnOk P w K mg base CX k (He.ma K C m) fd ps sp ∧ Binds K fd ps []
  cl : Cls K C
  mt : Meth K C m (He.ma K C m)
structure Mak (P : Program) (w : World) (K : PySem.W.Frag) (mg : Str → Option Value) (base : Heap) (CX : CXT) (k : Nat) (x : Str) (ps : List Str) (sp : Sp) : Prop where
  ex : ∃ fd, FnOk P w K mg base CX k (He.ma K (He.ga K x) "__init__") fd ps sp ∧ Binds K fd ps []
  maker : Mk K (He.ga K x) (He.ma K (He.ga K x) "__init__")
  g : mg x = some (.ref (He.ga K x))
theorem Cal.mono {P : Program} {w : World} {K : PySem.W.Frag} {mg : Str → Option Value} {base : Heap} {CX : CXT} {j k : Nat} {x : Str} {ps : List Str} {sp : Sp} (c : Cal P w K mg base CX j x ps sp) (h : j ≤ k) : Cal P w K mg base CX k x ps sp :=
  ⟨c.ex.elim fun fd F => ⟨fd, F.1.mono h, F.2⟩, c.g, c.kp⟩
theorem Met.mono {P : Program} {w : World} {K : PySem.W.Frag} {mg : Str → Option Value} {base : Heap} {CX : CXT} {j k : Nat} {C : Addr} {x : Str} {ps : List Str} {sp : Sp} (c : Met P w K mg base CX j C x ps sp) (h : j ≤ k) : Met P w K mg base CX k C x ps sp :=
  ⟨c.ex.elim fun fd F => ⟨fd, F.1.mono h, F.2⟩, c.cl, c.mt⟩
theorem Mak.mono {P : Program} {w : World} {K : PySem.W.Frag} {mg : Str → Option Value} {base : Heap} {CX : CXT} {j k : Nat} {x : Str} {ps : List Str} {sp : Sp} (c : Mak P w K mg base CX j x ps sp) (h : j ≤ k) : Mak P w K mg base CX k x ps sp :=
  ⟨c.ex.elim fun fd F => ⟨fd, F.1.mono h, F.2⟩, c.maker, c.g⟩
/-- a weaker promise -/
theorem Cal.imp {P : Program} {w : World} {K : PySem.W.Frag} {mg : Str → Option Value} {base : Heap} {CX : CXT} {k : Nat} {x : Str} {ps : List Str} {sp sp' : Sp} (c : Cal P w K mg base CX k x ps sp) (h : ∀ vs H Q E, sp' vs H Q E → sp vs H Q E) : Cal P w K mg base CX k x ps sp' :=
  ⟨c.ex.elim fun fd F => ⟨fd, F.1.imp h, F.2⟩, c.g, c.kp⟩
section
variable {X : Cx} {CX : CXT} {k j : Nat} {C : Addr} {x m : Str} {ps : List Str} {sp : Sp} {E : XK} {p pos apos : Pos} {e o : Expr} {es : List Expr} {t : TA} {ta : TE}
theorem pf_callX (c : Cal X.prog X.w X.K X.mg X.base CX k x ps sp) (hr : Room j X.A) (hk : k ≤ j) (hg : Gl X x) (hx : Passes CX X E) (ha : PA X (e :: es) t)
    (hdb : (x == ("__debug__" : Str)) = false := by decide) (he : starEach (e :: es) X.env = (false, eval e X.env) :: starEach es X.env := by rfl) (hpl : (backTo pos (starEach es X.env)).any (·.1) = false := by rfl) :
    PE X (.Call (.Name x p) (e :: es) [] pos) (tCall sp [] E t) := by
  obtain ⟨fd, F, b⟩ := c.ex
  exact pe_call F (hr.mono hk) hg c.g c.kp b .nil hx ha hdb he hpl
theorem pf_callX0 (c : Cal X.prog X.w X.K X.mg X.base CX k x ps sp) (hr : Room j X.A) (hk : k ≤ j) (hg : Gl X x) (hx : Passes CX X E)
    (hdb : (x == ("__debug__" : Str)) = false := by decide) : PE X (.Call (.Name x p) [] [] pos) (tCall sp [] E tNil) := by
  obtain ⟨fd, F, b⟩ := c.ex
  exact pe_call0 F (hr.mono hk) hg c.g c.kp b .nil hx hdb
theorem pf_meth {pl : Sem Bool} (c : Met X.prog X.w X.K X.mg X.base CX k C m ps sp) (hr : Room j X.A) (hk : k ≤ j) (hx : Passes CX X E) (he : PE X o ta) (ha : PA X (e :: es) t)
    (hst : starEach (e :: es) X.env = (false, eval e X.env) :: starEach es X.env := by rfl) (hpl : (backTo pos (starEach es X.env)).any (·.1) = false := by rfl)
    (ht : eval (.Call (.Attribute o m apos) (e :: es) [] pos) X.env = (do
      let v ← eval o X.env
      standAt apos.atName
      let (g, first) ← holding [v] (getMethod v m pl)
      callWith pos g first (backTo pos (starEach (e :: es) X.env)) (backToKw pos (keywordEach [] X.env))) := by rfl) :
    PE X (.Call (.Attribute o m apos) (e :: es) [] pos) (tMeth C m sp [] E ta t) := by
  obtain ⟨fd, F, b⟩ := c.ex
  exact pe_meth (pl := pl) he c.cl c.mt F (hr.mono hk) b .nil hx ha hst hpl ht
theorem pf_meth0 {pl : Sem Bool} (c : Met X.prog X.w X.K X.mg X.base CX k C m ps sp) (hr : Room j X.A) (hk : k ≤ j) (hx : Passes CX X E) (he : PE X o ta)
    (ht : eval (.Call (.Attribute o m apos) [] [] pos) X.env = (do
      let v ← eval o X.env
      standAt apos.atName
      let (g, first) ← holding [v] (getMethod v m pl)
      callWith pos g first (backTo pos (starEach [] X.env)) (backToKw pos (keywordEach [] X.env))) := by rfl) :
    PE X (.Call (.Attribute o m apos) [] [] pos) (tMeth C m sp [] E ta tNil) := by
  obtain ⟨fd, F, b⟩ := c.ex
  exact pe_meth0 (pl := pl) he c.cl c.mt F (hr.mono hk) b .nil hx ht
theorem pf_make (c : Mak X.prog X.w X.K X.mg X.base CX k x ps sp) (hr : Room j X.A) (hk : k + 1 ≤ j) (hg : Gl X x) (hx : Passes CX X E) (ha : PA X (e :: es) t)
    (hdb : (x == ("__debug__" : Str)) = false := by decide) (he : starEach (e :: es) X.env = (false, eval e X.env) :: starEach es X.env := by rfl) (hpl : (backTo pos (starEach es X.env)).any (·.1) = false := by rfl) :
    PE X (.Call (.Name x p) (e :: es) [] pos) (tMake (He.ga X.K x) sp [] E t) := by
  obtain ⟨fd, F, b⟩ := c.ex
  exact pe_make c.maker F (hr.mono hk) hg c.g b .nil hx ha hdb he hpl
theorem passN {P : Program} {w : World} : Passes (L2.CX P w) X E0 := fun _ _ _ _ _ _ _ c => by
  obtain ⟨_, _, _, _, _, _, _, _, _, _, _, _, h⟩ := c
  exact h.elim
end
theorem passX {P : Program} {w : World} {K : PySem.W.Frag} {mg : Str → Option Value} {base : Heap} {N : List Str} {qual : Str} {scope : Scope} {f : Addr} {cd : Value} {A : Around} {outer : List Env} {s : Shared} {H : Hp} {E : XK} :
    Passes (L2.CX P w) (cxOf (L2.CX P w) P w K mg base N qual scope f cd A outer s H E) E := passes_call (takes_of rfl rfl rfl rfl) fun _ _ _ _ h => h
section
variable {P : Program} {w : World} {K : PySem.W.Frag} {mg : Str → Option Value} {base : Heap} {c x m qn : Str} {st : Stmt} {N ps : List Str} {k : Nat} {sp : Sp}
theorem cal_mkX (F : FnP K x st) (g : mg x = some (.ref (He.ga K x))) (S : FnScope N ps (defScope st)) (len : ∀ vs H Q E, sp vs H Q E → vs.length = ps.length)
    (hb : ∀ (kV doc pm : Value) (an : Option Addr) (cdv ct : Value) (us : List Value), us.length = ps.length → bindArgs (PySem.W.fnOf x x (defArgs st) (defBody st) (defScope st) .none kV doc pm an cdv ct) ⟨us, []⟩ = pure (ps.zip us))
    (hbody : ∀ (cdv : Value) (A : Around) (outer : List Env) (s : Shared) (H : Hp) (vs : List V) (Q : VK) (E : XK), Room k (A.deeper (envOfC x (defScope st) s.heap.objs.size (He.ga K x) cdv)) → sp vs H Q E →
      ∃ t, PSs (cxOf (L2.CX P w) P w K mg base N x (defScope st) (He.ga K x) cdv A outer s H E) (defBody st) t ∧ t { nx := fun _ H' => Q .non H', rt := Q } (start N vs) H) : Cal P w K mg base (L2.CX P w) (k + 1) x ps sp := by
  obtain ⟨fd, F⟩ := F
  exact ⟨⟨fd, F.ok S len hbody, F.bindsN hb⟩, g, F.kp⟩
theorem met_mk (F : FnM K c m qn st) (cl : Cls K (He.ga K c)) (mt : Meth K (He.ga K c) m (He.ma K (He.ga K c) m)) (S : FnScope N ps (defScope st)) (len : ∀ vs H Q E, sp vs H Q E → vs.length = ps.length)
    (hb : ∀ (kV doc pm : Value) (an : Option Addr) (cdv ct : Value) (us : List Value), us.length = ps.length → bindArgs (PySem.W.fnOf m qn (defArgs st) (defBody st) (defScope st) .none kV doc pm an cdv ct) ⟨us, []⟩ = pure (ps.zip us))
    (hbody : ∀ (cdv : Value) (A : Around) (outer : List Env) (s : Shared) (H : Hp) (vs : List V) (Q : VK) (E : XK), Room k (A.deeper (envOfC qn (defScope st) s.heap.objs.size (He.ma K (He.ga K c) m) cdv)) → sp vs H Q E →
      ∃ t, PSs (cxOf CX0 P w K mg base N qn (defScope st) (He.ma K (He.ga K c) m) cdv A outer s H E).nox (defBody st) t ∧ t { nx := fun _ H' => Q .non H', rt := Q } (start N vs) H) : Met P w K mg base CX0 (k + 1) (He.ga K c) m ps sp := by
  obtain ⟨fd, F⟩ := F
  exact ⟨⟨fd, F.ok S len fun cdv A outer s H vs Q E hr h => (hbody cdv A outer s H vs Q E hr h).elim fun t z => ⟨t, z.1.nox, z.2⟩, F.bindsN hb⟩, cl, mt⟩
theorem met_mkX (F : FnM K c m qn st) (cl : Cls K (He.ga K c)) (mt : Meth K (He.ga K c) m (He.ma K (He.ga K c) m)) (S : FnScope N ps (defScope st)) (len : ∀ vs H Q E, sp vs H Q E → vs.length = ps.length)
    (hb : ∀ (kV doc pm : Value) (an : Option Addr) (cdv ct : Value) (us : List Value), us.length = ps.length → bindArgs (PySem.W.fnOf m qn (defArgs st) (defBody st) (defScope st) .none kV doc pm an cdv ct) ⟨us, []⟩ = pure (ps.zip us))
    (hbody : ∀ (cdv : Value) (A : Around) (outer : List Env) (s : Shared) (H : Hp) (vs : List V) (Q : VK) (E : XK), Room k (A.deeper (envOfC qn (defScope st) s.heap.objs.size (He.ma K (He.ga K c) m) cdv)) → sp vs H Q E →
      ∃ t, PSs (cxOf (L2.CX P w) P w K mg base N qn (defScope st) (He.ma K (He.ga K c) m) cdv A outer s H E) (defBody st) t ∧ t { nx := fun _ H' => Q .non H', rt := Q } (start N vs) H) : Met P w K mg base (L2.CX P w) (k + 1) (He.ga K c) m ps sp := by
  obtain ⟨fd, F⟩ := F
  exact ⟨⟨fd, F.ok S len hbody, F.bindsN hb⟩, cl, mt⟩
theorem mak_mk (F : FnM K x "__init__" qn st) (mk : Mk K (He.ga K x) (He.ma K (He.ga K x) "__init__")) (g : mg x = some (.ref (He.ga K x))) (S : FnScope N ps (defScope st)) (len : ∀ vs H Q E, sp vs H Q E → vs.length = ps.length)
    (hb : ∀ (kV doc pm : Value) (an : Option Addr) (cdv ct : Value) (us : List Value), us.length = ps.length → bindArgs (PySem.W.fnOf "__init__" qn (defArgs st) (defBody st) (defScope st) .none kV doc pm an cdv ct) ⟨us, []⟩ = pure (ps.zip us))
    (hbody : ∀ (cdv : Value) (A : Around) (outer : List Env) (s : Shared) (H : Hp) (vs : List V) (Q : VK) (E : XK), Room k (A.deeper (envOfC qn (defScope st) s.heap.objs.size (He.ma K (He.ga K x) "__init__") cdv)) → sp vs H Q E →
      ∃ t, PSs (cxOf CX0 P w K mg base N qn (defScope st) (He.ma K (He.ga K x) "__init__") cdv A outer s H E).nox (defBody st) t ∧ t { nx := fun _ H' => Q .non H', rt := Q } (start N vs) H) : Mak P w K mg base CX0 (k + 1) x ps sp := by
  obtain ⟨fd, F⟩ := F
  exact ⟨⟨fd, F.ok S len fun cdv A outer s H vs Q E hr h => (hbody cdv A outer s H vs Q E hr h).elim fun t z => ⟨t, z.1.nox, z.2⟩, F.bindsN hb⟩, mk, g⟩
theorem mak_mkX (F : FnM K x "__init__" qn st) (mk : Mk K (He.ga K x) (He.ma K (He.ga K x) "__init__")) (g : mg x = some (.ref (He.ga K x))) (S : FnScope N ps (defScope st)) (len : ∀ vs H Q E, sp vs H Q E → vs.length = ps.length)
    (hb : ∀ (kV doc pm : Value) (an : Option Addr) (cdv ct : Value) (us : List Value), us.length = ps.length → bindArgs (PySem.W.fnOf "__init__" qn (defArgs st) (defBody st) (defScope st) .none kV doc pm an cdv ct) ⟨us, []⟩ = pure (ps.zip us))
    (hbody : ∀ (cdv : Value) (A : Around) (outer : List Env) (s : Shared) (H : Hp) (vs : List V) (Q : VK) (E : XK), Room k (A.deeper (envOfC qn (defScope st) s.heap.objs.size (He.ma K (He.ga K x) "__init__") cdv)) → sp vs H Q E →
      ∃ t, PSs (cxOf (L2.CX P w) P w K mg base N qn (defScope st) (He.ma K (He.ga K x) "__init__") cdv A outer s H E) (defBody st) t ∧ t { nx := fun _ H' => Q .non H', rt := Q } (start N vs) H) : Mak P w K mg base (L2.CX P w) (k + 1) x ps sp := by
  obtain ⟨fd, F⟩ := F
  exact ⟨⟨fd, F.ok S len hbody, F.bindsN hb⟩, mk, g⟩
end
/-! ### own errors with fields -/
structure OexI (K : PySem.W.Frag) (C : Addr) : Prop where
  iC : PySem.W.findIn K (.ref C) "__init__" = some (some (.ref (He.ma K C "__init__")))
  tI : PySem.W.typeIn K (.ref (He.ma K C "__init__")) = some (.type "function")
def oexI (K : PySem.W.Frag) (x : Str) : Bool := decide (PySem.W.findIn K (.ref (He.ga K x)) "__init__" = some (some (.ref (He.ma K (He.ga K x) "__init__")))) && decide (PySem.W.typeIn K (.ref (He.ma K (He.ga K x) "__init__")) = some (.type "function"))
theorem oexI_ok {K : PySem.W.Frag} {x : Str} (h : oexI K x = true) : OexI K (He.ga K x) := by
  have z := Bool.and_eq_true_iff.mp h
  exact ⟨of_decide_eq_true z.1, of_decide_eq_true z.2⟩
def oexC (K : PySem.W.Frag) (C : Addr) : Bool := match K.lookup C with
  | some ⟨.type t, _, .cls cd, sl⟩ => decide (t = "type") && (match cd.mro, sl.toList with
    | .ref c2 :: bm, [_, _, _, _, some (.builtin n), _] => decide (c2 = C) && (decide (n = "ValueError.__new__") && (!cd.hasDel && (cd.hasDict && PySem.HandSPX.refsVE bm)))
    | _, _ => false)
  | _ => false
theorem oexC_ok {K : PySem.W.Frag} {C : Addr} (h : oexC K C = true) :
    ∃ nm q N bs bm sn sub ab col dd k0 k1 k2 k3 k5, K.lookup C = some (excClassObj nm q C N bs bm true sn sub ab col dd k0 k1 k2 k3 k5 "ValueError.__new__") ∧ PySem.HandSPX.refsVE bm = true := by
  unfold oexC at h
  split at h
  · rename_i t dd cd sl ho
    rw [Bool.and_eq_true_iff] at h
    obtain ⟨h1, h2⟩ := h
    have e1 := of_decide_eq_true h1
    subst e1
    split at h2
    · rename_i c2 bm k0 k1 k2 k3 n k5 hm hs
      simp only [Bool.and_eq_true, decide_eq_true_eq, Bool.not_eq_true'] at h2
      obtain ⟨rfl, rfl, hd, hh, hv⟩ := h2
      obtain ⟨nm, bs, mro, ns, qn, hdi, sn, sub, ab, col, del⟩ := cd
      dsimp only at hm hd hh
      subst hm hd hh
      have hsl : sl = #[k0, k1, k2, k3, some (.builtin "ValueError.__new__"), k5] := by
        obtain ⟨l⟩ := sl
        have : l = [k0, k1, k2, k3, some (.builtin "ValueError.__new__"), k5] := hs
        rw [this]
      subst hsl
      exact ⟨nm, qn, ns, bs, bm, sn, sub, ab, col, dd, k0, k1, k2, k3, k5, ho, hv⟩
    · cases h2
  · cases h
def oexB (K : PySem.W.Frag) (x : Str) : Bool := oexC K (He.ga K x) && (decide (PySem.W.findIn K (.ref (He.ga K x)) "__setattr__" = some (some (.builtin "object.__setattr__"))) &&
  (decide (PySem.W.subIn K (.ref (He.ga K x)) (.type "BaseException") = some true) && (decide (PySem.W.typeIn K (.ref (He.ga K x)) = some (.type "type")) && PySem.W.keepIn K (.ref (He.ga K x)))))
theorem oexB_ok {K : PySem.W.Frag} {x : Str} (h : oexB K x = true) : OexC K (He.ga K x) := by
  obtain ⟨h1, h⟩ := Bool.and_eq_true_iff.mp h
  obtain ⟨h2, h⟩ := Bool.and_eq_true_iff.mp h
  obtain ⟨h3, h⟩ := Bool.and_eq_true_iff.mp h
  obtain ⟨h4, h5⟩ := Bool.and_eq_true_iff.mp h
  exact ⟨oexC_ok h1, of_decide_eq_true h2, of_decide_eq_true h3, of_decide_eq_true h4, h5⟩
/-- __init__ of an error of the class at C with the fields fs -/
def sp_err (C : Addr) (fs : List Str) : Sp := fun vs H Q _ => ∃ (a : Addr) (ws : List V), vs = .ref a :: ws ∧ ws.length = fs.length ∧ H a = some (exo a C none) ∧
  ∀ d, H d = none → d ≠ a → Q .non (upd (upd H d (exd d (fs.zip ws).reverse)) a (exo a C (some d)))
theorem len_err {C : Addr} {fs : List Str} {vs : List V} {H : Hp} {Q : VK} {E : XK} (h : sp_err C fs vs H Q E) : vs.length = fs.length + 1 := by
  obtain ⟨a, ws, rfl, hl, _⟩ := h
  rw [List.length_cons, hl]
structure Err (P : Program) (w : World) (K : PySem.W.Frag) (mg : Str → Option Value) (base : Heap) (k : Nat) (x : Str) (fs : List Str) : Prop where
  ex : ∃ fd ps, FnOk P w K mg base CX0 k (He.ma K (He.ga K x) "__init__") fd ps (sp_err (He.ga K x) fs) ∧ Binds K fd ps []
  ox : OexC K (He.ga K x)
  oi : OexI K (He.ga K x)
  g : mg x = some (.ref (He.ga K x))
theorem Err.mono {P : Program} {w : World} {K : PySem.W.Frag} {mg : Str → Option Value} {base : Heap} {j k : Nat} {x : Str} {fs : List Str} (c : Err P w K mg base j x fs) (h : j ≤ k) : Err P w K mg base k x fs :=
  ⟨c.ex.elim fun fd F => F.elim fun ps F => ⟨fd, ps, F.1.mono h, F.2⟩, c.ox, c.oi, c.g⟩
theorem err_mk {P : Program} {w : World} {K : PySem.W.Frag} {mg : Str → Option Value} {base : Heap} {x qn : Str} {fs : List Str} {st : Stmt} {N ps : List Str} {k : Nat} (F : FnM K x "__init__" qn st) (g : mg x = some (.ref (He.ga K x))) (ox : OexC K (He.ga K x)) (oi : OexI K (He.ga K x))
    (S : FnScope N ps (defScope st)) (len : ∀ vs H Q E, sp_err (He.ga K x) fs vs H Q E → vs.length = ps.length)
    (hb : ∀ (kV doc pm : Value) (an : Option Addr) (cdv ct : Value) (us : List Value), us.length = ps.length → bindArgs (PySem.W.fnOf "__init__" qn (defArgs st) (defBody st) (defScope st) .none kV doc pm an cdv ct) ⟨us, []⟩ = pure (ps.zip us))
    (hbody : ∀ (cdv : Value) (A : Around) (outer : List Env) (s : Shared) (H : Hp) (vs : List V) (Q : VK) (E : XK), Room k (A.deeper (envOfC qn (defScope st) s.heap.objs.size (He.ma K (He.ga K x) "__init__") cdv)) → sp_err (He.ga K x) fs vs H Q E →
      ∃ t, PSs (cxOf CX0 P w K mg base N qn (defScope st) (He.ma K (He.ga K x) "__init__") cdv A outer s H E).nox (defBody st) t ∧ t { nx := fun _ H' => Q .non H', rt := Q } (start N vs) H) : Err P w K mg base (k + 1) x fs := by
  obtain ⟨fd, F⟩ := F
  exact ⟨⟨fd, ps, F.ok S len fun cdv A outer s H vs Q E hr h => (hbody cdv A outer s H vs Q E hr h).elim fun t z => ⟨t, z.1.nox, z.2⟩, F.bindsN hb⟩, ox, oi, g⟩
def t_err1 (K : PySem.W.Frag) (a : Str) : TS := tOst K a (tVar 0) (tVar 1)
def t_err2 (K : PySem.W.Frag) (a b : Str) : TS := tSeq (tOst K a (tVar 0) (tVar 1)) (tOst K b (tVar 0) (tVar 2))
def t_err3 (K : PySem.W.Frag) (a b c : Str) : TS := tSeq (tOst K a (tVar 0) (tVar 1)) (tSeq (tOst K b (tVar 0) (tVar 2)) (tOst K c (tVar 0) (tVar 3)))
theorem upd_swap {H : Hp} {a d : Addr} {o u v : HO} (n : d ≠ a) : upd (upd (upd H d u) a o) d v = upd (upd H d v) a o := by
  funext b
  by_cases h : b = d
  · subst h; rw [upd_same, upd_ne n, upd_same]
  · rw [upd_ne h]
    by_cases h2 : b = a
    · subst h2; rw [upd_same, upd_same]
    · rw [upd_ne h2, upd_ne h2, upd_ne h, upd_ne h]
section
variable {K : PySem.W.Frag} {C : Addr}
theorem pure_err1 {f1 : Str} (T : OexC K C) (n1 : NoAttr K C f1) (vs : List V) (H : Hp) (Q : VK) (E : XK) (h : sp_err C [f1] vs H Q E) : t_err1 K f1 { nx := fun _ H' => Q .non H', rt := Q } (start ["self", f1] vs) H := by
  obtain ⟨a, ws, rfl, hl, ha, k⟩ := h
  match ws, hl with
  | [v1], _ => exact ⟨_, rfl, _, rfl, a, C, rfl, T, n1, .inl ⟨ha, fun d hd hn => k d hd hn⟩⟩
theorem pure_err2 {f1 f2 : Str} (T : OexC K C) (n1 : NoAttr K C f1) (n2 : NoAttr K C f2) (vs : List V) (H : Hp) (Q : VK) (E : XK) (h : sp_err C [f1, f2] vs H Q E) : t_err2 K f1 f2 { nx := fun _ H' => Q .non H', rt := Q } (start ["self", f1, f2] vs) H := by
  obtain ⟨a, ws, rfl, hl, ha, k⟩ := h
  match ws, hl with
  | [v1, v2], _ =>
    refine ⟨_, rfl, _, rfl, a, C, rfl, T, n1, .inl ⟨ha, fun d hd hn => ?_⟩⟩
    refine ⟨_, rfl, _, rfl, a, C, rfl, T, n2, .inr ⟨d, [(f1, v1)], upd_same, by rw [upd_ne hn, upd_same], by show 1 ≤ 900; decide, ?_⟩⟩
    rw [upd_swap hn]
    exact k d hd hn
theorem pure_err3 {f1 f2 f3 : Str} (T : OexC K C) (n1 : NoAttr K C f1) (n2 : NoAttr K C f2) (n3 : NoAttr K C f3) (vs : List V) (H : Hp) (Q : VK) (E : XK) (h : sp_err C [f1, f2, f3] vs H Q E) : t_err3 K f1 f2 f3 { nx := fun _ H' => Q .non H', rt := Q } (start ["self", f1, f2, f3] vs) H := by
  obtain ⟨a, ws, rfl, hl, ha, k⟩ := h
  match ws, hl with
  | [v1, v2, v3], _ =>
    refine ⟨_, rfl, _, rfl, a, C, rfl, T, n1, .inl ⟨ha, fun d hd hn => ?_⟩⟩
    refine ⟨_, rfl, _, rfl, a, C, rfl, T, n2, .inr ⟨d, [(f1, v1)], upd_same, by rw [upd_ne hn, upd_same], by show 1 ≤ 900; decide, ?_⟩⟩
    rw [upd_swap hn]
    refine ⟨_, rfl, _, rfl, a, C, rfl, T, n3, .inr ⟨d, [(f2, v2), (f1, v1)], upd_same, by rw [upd_ne hn, upd_same], by show 2 ≤ 900; decide, ?_⟩⟩
    rw [upd_swap hn]
    exact k d hd hn
end
/-- raise X(..) -/
def tRaise (C : Addr) (fs : List Str) (E : XK) (ta : TA) : TS := fun _ σ H => tMkO C (sp_err C fs) [] ta σ H E
theorem pf_raise {X : Cx} {k j : Nat} {x : Str} {fs : List Str} {E : XK} {p pos pos2 : Pos} {e : Expr} {es : List Expr} {ta : TA} (c : Err X.prog X.w X.K X.mg X.base k x fs) (hr : Room j X.A) (hk : k + 1 ≤ j) (hg : Gl X x) (hc : X.calm = true) (tk : Takes X (fun cls d _ H => E cls d H)) (ha : PA X (e :: es) ta)
    (hdb : (x == ("__debug__" : Str)) = false := by decide) (he : starEach (e :: es) X.env = (false, eval e X.env) :: starEach es X.env := by rfl) (hpl : (backTo pos (starEach es X.env)).any (·.1) = false := by rfl) :
    PS X (.Raise (some (.Call (.Name x p) (e :: es) [] pos)) none pos2) (tRaise (He.ga X.K x) fs E ta) := by
  obtain ⟨fd, ps, F, b⟩ := c.ex
  exact ps_raise (pos := pos2) hc tk (pmk_oex (p := p) (pos := pos) (dvs := []) c.ox c.oi.iC c.oi.tI F (hr.mono hk) b .nil pass0 hg c.g ha hdb he hpl)
open Evl in
/-- an error whose fields are reckoned without a change: its own dict d, new, holds them -/
theorem s_raise {C : Addr} {fs : List Str} {E : XK} {ta : TA} {D : Ends} {σ : L2.St} {H : Hp} {vs : List V} (h : EvA ta σ H vs) (hl : vs.length = fs.length) (hf : fs.length ≤ 900)
    (k : ∀ H1 d, Evl.Ex H H1 → H1 d = none → E (.ref C) (some d) (upd H1 d (.xd (fs.zip vs).reverse))) : tRaise C fs E ta D σ H := h H (Evl.Ex.refl H) _ fun H1 e1 => by
  refine ⟨by omega, fun a ha => ⟨a, vs, by rw [List.append_nil], hl, upd_same, fun d hd hn => ⟨rfl, d, _, upd_same, by rw [upd_ne hn, upd_same], ?_, ?_⟩⟩⟩
  · rw [upd_ne hn] at hd; exact hd
  · have hd1 : H1 d = none := by rw [upd_ne hn] at hd; exact hd
    have e : upd (L2.del (upd (upd (upd H1 a (exo a C none)) d (exd d (fs.zip vs).reverse)) a (exo a C (some d))) a) d (.xd (fs.zip vs).reverse) = upd H1 d (.xd (fs.zip vs).reverse) := by
      funext b
      by_cases h1 : b = d
      · subst h1; rw [upd_same, upd_same]
      · rw [upd_ne h1, upd_ne h1]
        by_cases h2 : b = a
        · subst h2; rw [L2.del_same, ha]
        · rw [L2.del_ne h2, upd_ne h2, upd_ne h1, upd_ne h2]
    rw [e]
    exact k H1 d e1 hd1
end Ef

/-! rules of our own: tuple * n for n = 0, 1 too; list(text) -/
namespace Ef
open PySem PySem.Spec PyProof.Rows L2
theorem tup_mul1 (l : Addr) (items : Array Value) (n : Nat) (dd : Option Addr) (sl : Array (Option Value)) (u : Tok) :
    Meets (Builtin.«tuple.__mul__» ⟨[.ref l, .int 1 u], []⟩) (fun _ R s => s.heap.get? l = some { cls := .type "tuple", dict := dd, data := .seq items n, slots := sl } ∧ R (.ok (.ret (Value.ref l))) s) :=
  .of_wp fun prog w A R s h => by
    obtain ⟨hp, g, d, tk, os⟩ := s
    obtain ⟨hl, h⟩ := h
    have f1 := AutoSeq1.idx_int
    have c1 : (items.isEmpty || (1 : Int) == 1) = true := by rw [Bool.or_eq_true]; exact .inr rfl
    wp_walk using wpAny_loadPart' hl
    repeat (first
      | (refine wpAny_ite_true (decide_eq_true c1) ?_; wp_walk using wpAny_loadPart' hl)
      | (refine wpAny_ite_false (decide_eq_false (by decide)) ?_; wp_walk using wpAny_loadPart' hl))
    exact ⟨_, rfl, h⟩
theorem tup_mul0 (l : Addr) (items : Array Value) (n : Nat) (dd : Option Addr) (sl : Array (Option Value)) (u : Tok) (hi : items.isEmpty = false) :
    Meets (Builtin.«tuple.__mul__» ⟨[.ref l, .int 0 u], []⟩) (fun _ R s => s.heap.get? l = some { cls := .type "tuple", dict := dd, data := .seq items n, slots := sl } ∧
      R (.ok (.ret (Value.ref s.heap.objs.size))) { s with heap := s.heap.push { cls := Value.type "tuple", data := Data.seq #[] }, toks := s.toks }) :=
  .of_wp fun prog w A R s h => by
    obtain ⟨hp, g, d, tk, os⟩ := s
    obtain ⟨hl, h⟩ := h
    have f1 := AutoSeq1.idx_int
    have c1 : (items.isEmpty || (0 : Int) == 1) = false := by rw [hi]; rfl
    have c2 : (decide ((0 : Int) ≤ 0) || items.isEmpty) = true := by rw [Bool.or_eq_true]; exact .inl rfl
    wp_walk using wpAny_loadPart' hl
    repeat (first
      | (refine wpAny_ite_false (decide_eq_false (by rw [c1]; exact Bool.false_ne_true)) ?_; wp_walk using wpAny_loadPart' hl)
      | (refine wpAny_ite_true (decide_eq_true c2) ?_; wp_walk using wpAny_loadPart' hl)
      | (refine wpAny_ite_false (decide_eq_false (by decide)) ?_; wp_walk using wpAny_loadPart' hl))
    exact ⟨_, rfl, h⟩
abbrev rIsAlpha : V → List V → Hp → VK → Prop := fun u us G k => ∃ a, u = .str a ∧ us = [] ∧ True ∧ k (.bl (Txt.isalpha a)) G
abbrev rInsL : V → List V → Hp → VK → Prop := fun u us G k => ∃ (l : Addr) (zs : List V) (i : Int) (y : V), u = .ref l ∧ us = [.int i, y] ∧ G l = some (.lst zs) ∧ zs.length < sizeLine ∧ 0 ≤ i ∧ i < 2 ^ 63 ∧ k .non (upd G l (.lst (zs.take i.toNat ++ [y] ++ zs.drop i.toNat)))
/-- t * n, n from 0 to 1000 -/
def rRepTup (K : PySem.W.Frag) : R2 := fun x y H Q => ∃ l k xs, x = .ref l ∧ y = .int k ∧ SqT K H l xs ∧ xs ≠ [] ∧ 0 ≤ k ∧ k ≤ 1000 ∧ xs.length ≤ 1000 ∧
  (k = 1 → Q (.ref l) H) ∧ (k ≠ 1 → ∀ p, H p = none → Q (.ref p) (upd H p (.tup (List.replicate k.toNat xs).flatten)))
theorem op_repTup {X : Cx} : OpR X (binaryOp .Mult) (rRepTup X.K) := by
  intro pins s σ H x y v u Q I rx ry h
  obtain ⟨l, k, xs, rfl, rfl, hT, hne, h0, h2, hz, q1, q⟩ := h
  by_cases hk2 : 2 ≤ k
  · exact op_repT pins s σ H _ _ v u Q I rx ry ⟨l, k, xs, rfl, rfl, hT, hne, hk2, h2, hz, q (by omega)⟩
  · cases rx
    obtain ⟨t, rfl⟩ := ry
    obtain ⟨its, r, ⟨⟨cls, dd, data, sl⟩, ho, hc, n, hd⟩, hs⟩ := I.tuple hT
    simp only at hc hd
    subst hc hd
    have hle : its.length = xs.length := r.length.symm
    have hi : its.toArray.isEmpty = false := by
      cases its with
      | nil => exact absurd (List.eq_nil_of_length_eq_zero hle.symm) hne
      | cons a b => rfl
    by_cases hk1 : k = 1
    · subst hk1
      refine wpAny_binaryOp_repeat_ref (T := "tuple") (U := "int") (by decide) ⟨_, ho, rfl⟩ (fun s' => typeIs_int s' 1 t) noFill_tuple_mul F.fills_int_mul F.slot_int_rmul repeat_tuple F.slot_int_index.lookup
        (call_meets F.slot_int_rmul (typeIs_int s 1 t) F.entry_int_rmul (F.args_int_rmul_2 _ _) (int_rmul_tuple 1 t l its.toArray n dd sl)
          ⟨ho, rfl, ⟨_, ho, rfl⟩, call_meets F.slot_tuple_mul ⟨_, ho, rfl⟩ F.entry_tuple_mul (F.args_tuple_mul_2 _ _) (tup_mul1 l its.toArray n dd sl t) ⟨ho, ?_⟩⟩)
      exact ⟨.ref l, H, I, rfl, q1 rfl⟩
    · have hk0 : k = 0 := by omega
      subst hk0
      refine wpAny_binaryOp_repeat_ref (T := "tuple") (U := "int") (by decide) ⟨_, ho, rfl⟩ (fun s' => typeIs_int s' 0 t) noFill_tuple_mul F.fills_int_mul F.slot_int_rmul repeat_tuple F.slot_int_index.lookup
        (call_meets F.slot_int_rmul (typeIs_int s 0 t) F.entry_int_rmul (F.args_int_rmul_2 _ _) (int_rmul_tuple 0 t l its.toArray n dd sl)
          ⟨ho, rfl, ⟨_, ho, rfl⟩, call_meets F.slot_tuple_mul ⟨_, ho, rfl⟩ F.entry_tuple_mul (F.args_tuple_mul_2 _ _) (tup_mul0 l its.toArray n dd sl t hi) ⟨ho, ?_⟩⟩)
      refine ⟨.ref s.heap.objs.size, _, I.laid (t' := s.toks) (o := .tup []) (fun b ob q => Heap.get?_push_of_some _ q) (Nat.le_refl _) ?_, rfl, q hk1 _ (I.hok.fresh (Nat.le_refl _))⟩
      exact ⟨Nat.zero_le _, [], .nil, IsTup.new _ _⟩
section
variable {prog : Program} {w : World} {A : Around} {E : Value → Shared → Prop} {s : Shared} {x : Str} {t : Tok}
theorem ltx_hint {Q : Bool → Shared → Prop} (h : Q false s) : wpAny (model prog w) A (Builtin.List.listLengthHint (.str x t)) Q E s := by
  have hT : s.TypeIs (.str x t) "str" := typeIs_str s x t
  unfold Builtin.List.listLengthHint
  refine wpAny_bind (wpAny_specialOf hT PySem.F.slot_str_len.lookup ?_)
  generalize hid : ("str.__len__" : String) = id0
  wp_delta
  rw [show splitId id0 = some ("str", "__len__") from by subst hid; decide +kernel]
  subst hid
  refine wpAny_bind (wpAny_isInstance (T := "str") (b := true) hT (by rw [isSubtype_type]; kernel_rfl) ?_)
  refine wpAny_ite_split (fun z => absurd z (by decide)) (fun _ => ?_)
  refine wpAny_ite_split (fun _ => ?_) (fun z => absurd (by decide +kernel) z)
  exact wpAny_bind (wpAny_typeOf hT (wpAny_pure h))
theorem ltx_extend {R : Result → Shared → Prop} (hh : A.handled = none) (S : Addr) (res : Value) (c0 : Nat) (hS : s.heap.get? S = some { cls := .type "list", data := .seq #[] c0 }) (hn : x.cps.size ≤ sizeLine)
    (hR : ∀ h' tk acc c', (∀ b o, b ≠ S → s.heap.get? b = some o → h'.get? b = some o) → h'.get? S = some { cls := .type "list", dict := none, data := .seq acc c', slots := #[] } → ItemsOf (SignAt x) acc x.cps.size → R (.ok (.ret res)) { s with heap := h', toks := tk }) :
    wpAny (model prog w) A.in1 (Builtin.List.listExtendWith (.ref S) (.str x t) res)
      (fun fin s' => match fin with | .done f => R (.ok f) s' | .again c' => c'.quiet = true ∧ codeAny (model prog w) A c' R s') (fun e s' => R (.error e) s') s := by
  have hSI : S ≠ s.heap.objs.size := Nat.ne_of_lt (Heap.lt_size hS)
  have hT : s.TypeIs (.str x t) "str" := typeIs_str s x t
  unfold Builtin.List.listExtendWith
  refine wpAny_bind (wpAny_typeOf (T := "str") hT ?_)
  have h1 : Builtin.List.listSameRef (.ref S) (.str x t) = false := rfl
  have h2 : (Value.type "str" == Value.type "list") = false := by decide
  have h3 : (Value.type "str" == Value.type "tuple") = false := by decide
  simp only [h1, h2, h3, Bool.or_false, Bool.false_eq_true, if_false]
  refine wpAny_bind (wpAny_pyIter_str fun oI St W st => ?_)
  have W := W A.in1 hh
  have hSf : S ∉ [s.heap.objs.size] := fun z => hSI (List.mem_singleton.mp z)
  have key : ∀ (h : Heap) (c1 tk : Nat), St 0 h → (∀ b o, b ≠ S → s.heap.get? b = some o → h.get? b = some o) →
      h.get? S = some { cls := .type "list", data := .seq #[] c1 } → codeAny (model prog w) A (.builtin "list.extend.loop" ⟨[.ref S, .ref s.heap.objs.size, res], []⟩) R { s with heap := h, toks := tk } := by
    intro h c1 tk hst hk hS1
    refine codeAny_extend_loopS W.toS hn S hSf res x.cps.size 0 _ #[] c1 rfl (Nat.zero_le _) hst hS1 (ItemsOf.nil _) fun s' acc c' hm hS' hacc => ?_
    rw [Moved.eq_with hm]
    refine hR s'.heap s'.toks acc c' (fun b o hb e => hm.heap b o (fun hmem => ?_) (hk b o hb e)) hS' hacc
    rcases List.mem_cons.mp hmem with e' | hmem
    · exact hb e'
    · exact absurd (Heap.lt_size e) (by rw [List.mem_singleton.mp hmem]; exact Nat.lt_irrefl _)
  have hS1 := Heap.get?_push_of_some oI hS
  refine wpAny_bind (wpAny_holding (ltx_hint ?_))
  refine wpAny_ite_split (fun _ => ?_) (fun _ => wpAny_pure ⟨plainId_quiet PySem.F.plain_extend_loop _, key _ c0 _ st (fun b o _ e => Heap.get?_push_of_some _ e) hS1⟩)
  refine wpAny_bind (wpAny_rule ?_)
  refine wpAny_bind ?_
  show wpAny _ _ (updateSeq S (·.push .none) >>= fun _ => updateSeq S (·.pop)) _ _ _
  refine wpAny_bind (wpAny_updateSeq hS1 rfl ?_)
  have hS2 := Heap.get?_update_self (Obj.mapSeq (·.push Value.none)) hS1 rfl
  refine wpAny_updateSeq (hz := by seq_fits) hS2 rfl ?_
  have hS3 := Heap.get?_update_self (Obj.mapSeq (·.pop)) hS2 rfl
  refine wpAny_pure ⟨plainId_quiet PySem.F.plain_extend_loop _, key _ _ _ ?_ (fun b o hb e => ?_) hS3⟩
  · refine W.frame 0 _ _ st fun b hb o e => ?_
    have hbS : b ≠ S := fun h => hSf (h ▸ hb)
    exact (Heap.get?_update_other _ _ (Ne.symm hbS)).trans ((Heap.get?_update_other _ _ (Ne.symm hbS)).trans e)
  · exact (Heap.get?_update_other _ _ (Ne.symm hb)).trans ((Heap.get?_update_other _ _ (Ne.symm hb)).trans (Heap.get?_push_of_some _ e))
theorem ltx_call {Q : Value → Shared → Prop} (hh : A.handled = none) (hn : x.cps.size ≤ sizeLine)
    (hQ : ∀ h' tk acc c', (∀ b o, s.heap.get? b = some o → h'.get? b = some o) → h'.get? s.heap.objs.size = some { cls := .type "list", dict := none, data := .seq acc c', slots := #[] } → ItemsOf (SignAt x) acc x.cps.size → Q (.ref s.heap.objs.size) { s with heap := h', toks := tk }) :
    wpAny (model prog w) A (call (.type "list") [.str x t]) Q E s := by
  refine callType_codes (Q₁ := fun obj s1 => obj = .ref s.heap.objs.size ∧ s1 = { s with heap := s.heap.push { cls := .type "list", data := .seq #[] } }) PySem.F.called_list (PySem.F.typeCall_list_1 _) PySem.F.entry_list_init
    (code_list_new _ ⟨rfl, rfl⟩) fun obj s1 h1 => ?_
  obtain ⟨rfl, rfl⟩ := h1
  have hS : (s.heap.push { cls := .type "list", data := .seq #[] }).get? s.heap.objs.size = some { cls := .type "list", data := .seq #[] } := Heap.get?_push_size _ rfl
  refine ⟨⟨_, hS, rfl⟩, PySem.F.args_list_init_2 _ _, ?_⟩
  show wpAny _ _ (do let old ← Builtin.List.listItems (.ref s.heap.objs.size); Builtin.List.listUpdate (.ref s.heap.objs.size) (fun _ => #[]); letGo old.toList.reverse; Builtin.List.listExtendWith (.ref s.heap.objs.size) (.str x t) .none) _ _ _
  refine wpAny_bind ?_
  unfold Builtin.List.listItems
  refine wpAny_bind (wpAny_seqItems hS rfl (wpAny_pure ?_))
  show wpAny _ _ (updateSeq s.heap.objs.size (fun _ => #[]) >>= fun _ => letGo (#[] : Array Value).toList.reverse >>= fun _ => Builtin.List.listExtendWith (.ref s.heap.objs.size) (.str x t) .none) _ _ _
  refine wpAny_bind (wpAny_updateSeq hS rfl ?_)
  have hS2 := Heap.get?_update_self (Obj.mapSeq (fun _ => (#[] : Array Value))) hS rfl
  refine wpAny_bind (wpAny_letGo ?_)
  refine ltx_extend (A := A.in1) hh s.heap.objs.size .none _ hS2 hn (fun h' tk acc c' hk hS' hacc => ?_)
  exact ⟨rfl, hQ h' tk acc c' (fun b o e => hk b o (Nat.ne_of_lt (Heap.lt_size e)) ((Heap.get?_update_other _ _ (Nat.ne_of_gt (Heap.lt_size e))).trans (Heap.get?_push_of_some _ e))) hS' hacc⟩
end
theorem vals_by : ∀ (xs : List V) (us : List Value), xs.length = us.length → (∀ (i : Nat) x u, xs[i]? = some x → us[i]? = some u → RelV x u) → Vals xs us
  | [], [], _, _ => .nil
  | [], _ :: _, h, _ => by cases h
  | _ :: _, [], h, _ => by cases h
  | x :: xs, u :: us, h, k => .cons (k 0 x u rfl rfl) (vals_by xs us (by simpa using h) fun i y v hy hv => k (i + 1) y v hy hv)
/-- the signs of a text, each a text -/
def signsOf (z : Str) : List Str := z.cps.toList.map fun c => ⟨#[c]⟩
def rListStr : List V → Hp → VK → Prop := fun us G k => ∃ z : Str, us = [.str z] ∧ z.length ≤ sizeLine ∧ ∀ l, G l = none → k (.ref l) (upd G l (.lst ((signsOf z).map V.str)))
theorem call_list_txt {X : Cx} (hc : X.calm = true) : CallR X (.type "list") rListStr := by
  intro pins s σ H xs us Q I r h
  obtain ⟨z, rfl, hl, q⟩ := h
  obtain ⟨u, rfl, rx⟩ := vals1 r
  obtain ⟨t, rfl⟩ := rx
  refine ltx_call (I.ok.hd hc) hl fun h' tk acc c' hk hS hacc => ?_
  have hlen : ((signsOf z).map V.str).length = acc.toList.length := by
    have e : acc.toList.length = z.cps.size := by rw [Array.length_toList, hacc.1]
    rw [e, List.length_map]
    unfold signsOf
    rw [List.length_map]
    simp
  refine ⟨.ref s.heap.objs.size, _, I.laid (t' := tk) (o := .lst ((signsOf z).map V.str)) (h' := h') hk (Nat.le_refl _) ⟨?_, acc.toList, c', vals_by _ _ hlen fun i x u hx hu => ?_, ?_⟩, rfl, q _ (I.hok.fresh (Nat.le_refl _))⟩
  · rw [hlen, Array.length_toList, hacc.1]
    exact hl
  · obtain ⟨c, tk2, e1, rfl⟩ := hacc.2 i u (by rw [← Array.getElem?_toList]; exact hu)
    unfold signsOf at hx
    rw [List.map_map, List.getElem?_map, Array.getElem?_toList, e1] at hx
    cases Option.some.inj hx
    exact ⟨tk2, rfl⟩
  · rw [hS]
end Ef

/-! a rule of our own: for i, x in enumerate(tuple) -/
namespace Ef
open PySem PySem.Spec PyProof.Rows L2
theorem enumT_new {v : Value} {o : Obj} {G : Heap → Prop} (B : Begins v o G) :
    Meets (Builtin.«enumerate.__new__» ⟨[.type "enumerate", v], []⟩) (fun _ R s => G s.heap ∧
      R (.ok (.ret (.ref (s.heap.push o).objs.size))) { s with heap := (s.heap.push o).push { cls := .type "enumerate", data := .fields #[.none, .bool false, .ref s.heap.objs.size, rawInt 0, .none, .none] } }) :=
  .of_wp fun prog w A R s h => by
    obtain ⟨hp, g, d, tk, os⟩ := s
    obtain ⟨h1, h⟩ := h
    have sub := sub_enumerate
    have q1 : ∀ {A' : Around} {E : Value → Shared → Prop} {Q : Value → Shared → Prop}, Q (.ref hp.objs.size) ⟨hp.push o, g, d, tk, os⟩ → wpAny (model prog w) A' (pyIter v) Q E ⟨hp, g, d, tk, os⟩ := fun z => B.iter prog w _ _ ⟨hp, g, d, tk, os⟩ _ h1 z
    wp_walk using q1
    refine wpAny_stack_any fun st => wpAny_pure ?_
    split
    · rename_i c _ _ _ _ _
      cases (c == Value.type "enumerate") <;> (wp_walk using q1; exact ⟨_, rfl, h⟩)
    · (wp_walk using q1; exact ⟨_, rfl, h⟩)
theorem enumT_call {prog : Program} {w : World} {A : Around} {E : Value → Shared → Prop} {s : Shared} {v : Value} {o : Obj} {G : Heap → Prop} {Q : Value → Shared → Prop} (B : Begins v o G) (h1 : G s.heap)
    (h : ∀ h', IsEnum h' (s.heap.objs.size + 1) s.heap.objs.size 0 .none → h'.get? s.heap.objs.size = some o → (∀ b o, s.heap.get? b = some o → h'.get? b = some o) → Q (.ref (s.heap.objs.size + 1)) { s with heap := h' }) :
    wpAny (model prog w) A (call (.type "enumerate") [v]) Q E s := by
  refine callType_new F.called_enumerate (by decide) (F.typeCall_enumerate_1 _) (F.newCall_enumerate_1 _) (fun obj => F.args_object_init_2 obj _) F.entry_enumerate_new (enumT_new B) ⟨h1, ?_⟩
  have hz : (s.heap.push o).objs.size = s.heap.objs.size + 1 := Heap.size_push ..
  show _ ∧ _
  rw [hz]
  have he : IsEnum ((s.heap.push o).push { cls := .type "enumerate", data := .fields #[.none, .bool false, .ref s.heap.objs.size, rawInt 0, .none, .none] }) (s.heap.objs.size + 1) s.heap.objs.size 0 .none := by
    have z := Heap.get?_push_size (s.heap.push o) (o := { cls := .type "enumerate", data := .fields #[.none, .bool false, .ref s.heap.objs.size, rawInt 0, .none, .none] }) rfl
    rw [hz] at z
    exact z
  exact ⟨⟨_, he, rfl⟩, h _ he (Heap.get?_push_of_some _ (Heap.get?_push_size _ B.free)) fun b o z => Heap.get?_push_of_some _ (Heap.get?_push_of_some _ z)⟩
theorem enumT_end {prog : Program} {w : World} {A : Around} {E : Value → Shared → Prop} {s : Shared} {e it t : Addr} {n i : Nat} {k : Int} {items : Array Value} {old : Value} {Q : Option Value → Shared → Prop} (hh : A.handled = none)
    (he : IsEnum s.heap e it k old) (hit : s.heap.IsTupleIter it t i) (ht : s.heap.IsTuple t items) (hi : items[i]? = none) (hQ : ∀ h', Heap.ExtBut it s.heap h' → Q none { s with heap := h' }) : wpAny (model prog w) A (pyNext (.ref e)) Q E s := by
  have hT : s.TypeIs (.ref e) "enumerate" := ⟨_, he, rfl⟩
  unfold pyNext
  refine wpAny_bind (wpAny_attempt (wpAny_callSpecial?_slot (name := Str.ofString "__next__") hT F.slot_enumerate_next (wpAny_call_entry F.slot_enumerate_next hT F.entry_enumerate_next ?_ (F.args_enumerate_next_1 _))))
  show wpAny _ _ (field (.ref e) 2 >>= _) _ _ _
  refine wpAny_bind (wpAny_field he rfl (x := .ref it) rfl (wpAny_bind (wpAny_nextOf_tuple_end hh hit ht hi fun h' x e1 e2 => ?_)))
  obtain ⟨o, ho, hc⟩ := e2
  exact wpAny_bind (wpAny_isInstance (T := "StopIteration") (b := true) ⟨o, ho, hc⟩ isSubtype_stop (wpAny_pure (hQ _ e1)))
/-- the tuple at a, each item in a new pair -/
def ItU (K : PySem.W.Frag) (a : Addr) : It where
  go := fun i G => ∃ (xs : List V) (x : V), SqT K G a xs ∧ xs[i]? = some x
  yld := fun i G v G' => ∃ T x, v = .ref T ∧ G T = none ∧ G' = upd G T (.tup [.int (i : Nat), x]) ∧ ∀ xs, SqT K G a xs → xs[i]? = some x
  stop := fun i G => ∃ xs : List V, SqT K G a xs ∧ xs.length ≤ i
theorem turn_enumT {P : Program} {w : World} {K : PySem.W.Frag} {elts : List Expr} {kk : Nat} {tpos : Pos} (a e it : Addr) (hai : a ≠ it) (hae : a ≠ e) :
    Turn P w K (.Tuple elts kk tpos) (ItU K a) [e, it] e (fun i h => (∃ old, IsEnum h e it ((i : Nat) : Int) old) ∧ h.IsTupleIter it a i ∧ e ≠ it) where
  mem := by simp
  obj := fun i h st b hb => by
    obtain ⟨⟨old, he⟩, ⟨o, ho, hc, hd⟩, _⟩ := st
    rcases (show b = e ∨ b = it by simpa using hb) with rfl | rfl
    · exact ⟨_, he, fun v q => nomatch q⟩
    · exact ⟨o, ho, fun v q => by rw [hd] at q; cases q⟩
  keep := fun i h h' st k => by
    obtain ⟨⟨old, he⟩, hi, hne⟩ := st
    exact ⟨⟨old, k e (by simp) _ he⟩, hi.at fun o q => k it (by simp) o q, hne⟩
  item := by
    intro X hP hw hK hc i pins s σ H E I hf st hg
    subst hP hw hK
    obtain ⟨⟨old, he⟩, hit, hne⟩ := st
    obtain ⟨xs, x, hq, hx⟩ := hg
    obtain ⟨its, rv, p, hz⟩ := I.tuple hq
    obtain ⟨u, hu, ru⟩ := rv.get hx
    have hlt : i < its.toArray.size := by
      rw [List.size_toArray]
      exact (List.getElem?_eq_some_iff.mp hu).1
    have hel : e < s.heap.objs.size := Heap.lt_size he
    have hil : it < s.heap.objs.size := by obtain ⟨_, q, _⟩ := hit; exact Heap.lt_size q
    have ht : s.heap.IsTuple a its.toArray := p
    refine wpAny_pyNext_enum_itemD (Draws.tuple (A := X.A.in1) (I.ok.hd hc) it a hai its.toArray) he ⟨hit, ht⟩ hlt hne (by simp only [List.mem_cons, List.not_mem_nil, or_false, not_or]; exact ⟨hne, hae.symm⟩) fun y h' tk hy ho hst hT hsz hk => ?_
    have hyu : y = u := by
      have z : its.toArray[i]? = some u := by simpa using hu
      exact Option.some.inj (hy.symm.trans z)
    subst hyu
    refine ⟨_, rfl, wpAny_letOwnedTupleGo_enum (s := { s with heap := h', toks := tk + 1 }) ho fun h'' he' sb => ?_⟩
    have hT2 : h''.get? s.heap.objs.size = some { cls := .type "tuple", data := .seq #[.int i tk, y] } := (sb.2 _ (Nat.ne_of_gt hel)).trans hT
    have new : ObjOk X.prog X.w (upd H s.heap.objs.size (.tup [.int (i : Nat), x])) h'' s.heap.objs.size (.tup [.int (i : Nat), x]) :=
      ⟨by show 2 ≤ sizeLine; decide, [.int i tk, y], .cons ⟨_, rfl⟩ (.cons ru .nil), ⟨_, hT2, rfl, _, rfl⟩⟩
    have I1 : Inv X pins σ (upd H s.heap.objs.size (.tup [.int (i : Nat), x])) { s with heap := h'', toks := tk + 1 } :=
      I.turnedNew (ch := [e, it]) (fun b ob hb q => (sb.2 b (fun z => hb (by simp [z]))).trans (hk b ob (fun z => hb (by simp [z])) (fun z => hb (by simp [z])) q)) hf (Nat.le_refl _) new
    refine ⟨.ref s.heap.objs.size, _, I1, rfl, ⟨_, x, rfl, I.hok.fresh (Nat.le_refl _), rfl, fun ys hy => by rw [I.tuple_inj hy hq]; exact hx⟩, ⟨⟨y, ?_⟩, hst.1.at fun o q => (sb.2 it (Ne.symm hne)).trans q, hne⟩, fun b hb => ?_⟩
    · have e1 : ((i + 1 : Nat) : Int) = (i : Int) + 1 := by omega
      rw [e1]
      exact he'
    · have hb' : b < s.heap.objs.size := by
        rcases (show b = e ∨ b = it by simpa using hb) with rfl | rfl
        · exact hel
        · exact hil
      rw [upd_ne (Nat.ne_of_lt hb')]
      exact (hf b hb).1
  done := by
    intro X hP hw hK hc i pins s σ H E I hf st hg
    subst hP hw hK
    obtain ⟨⟨old, he⟩, hit, hne⟩ := st
    obtain ⟨xs, hq, hx⟩ := hg
    obtain ⟨its, rv, p, hz⟩ := I.tuple hq
    obtain ⟨f0, f1, f2, f3, f4, f5⟩ := hf it (by simp)
    have hl := rv.length
    have ht : s.heap.IsTuple a its.toArray := p
    exact enumT_end (n := 0) (I.ok.hd hc) he hit ht (by simp; omega) fun h' eb => ⟨rfl, I.turned (t' := s.toks) (fun b o hb q => eb b o hb q) f0 f1 f3 f4 f5⟩
  self := fun A i s Q E st h => by
    obtain ⟨⟨_, he⟩, _⟩ := st
    exact wpAny_pyIter_enum he h
def iEnumT (K : PySem.W.Frag) (ta : TA) : TI := fun σ G R => ta σ G fun vs G1 => ∃ a xs, vs = [.ref a] ∧ SqT K G1 a xs ∧ R (ItU K a) G1
theorem pi_enumT {X : Cx} {e : Expr} {ta : TA} {p pos tpos : Pos} {elts : List Expr} {kk : Nat} (hg : Gl X "enumerate") (hm : X.mg "enumerate" = none) (ha : PA X [e] ta) (hs : starEach [e] X.env = [(false, eval e X.env)] := by rfl) :
    PI X (.Tuple elts kk tpos) (.Call (.Name "enumerate" p) [e] [] pos) (iEnumT X.K ta) := by
  refine ⟨fun pins s σ H R I h => ?_⟩
  refine Call_ (ld_blt I hg hm boot_enumerate (PyProof.Rows.callWith_type1 (thn (ha.run pos pins s σ H _ I h) fun us s1 ⟨vs, H1, I1, r1, q1⟩ => ?_) hs rfl))
  obtain ⟨a, xs, ex, hq, q⟩ := q1
  subst ex
  cases r1 with
  | cons r rr =>
    cases rr
    cases r
    obtain ⟨its, rv, p', hz⟩ := I1.tuple hq
    have ht : s1.heap.IsTuple a its.toArray := p'
    have hlt : a < s1.heap.objs.size := p'.lt
    refine enumT_call (begins_tuple a its.toArray) ht fun h' he hit hk => wpAny_pyIter_enum he ?_
    have I2 : Inv X pins σ H1 { s1 with heap := h' } := I1.kept (t' := s1.toks) hk
    refine ⟨s1.heap.objs.size + 1, [s1.heap.objs.size + 1, s1.heap.objs.size], _, _, H1, rfl, I2, turn_enumT a (s1.heap.objs.size + 1) s1.heap.objs.size (Nat.ne_of_lt hlt) (Nat.ne_of_lt (Nat.lt_succ_of_lt hlt)), ⟨⟨.none, he⟩, ⟨_, hit, rfl, rfl⟩, Nat.succ_ne_self _⟩, fun b hb => ?_, q⟩
    have hle : s1.heap.objs.size ≤ b := by
      rcases (show b = s1.heap.objs.size + 1 ∨ b = s1.heap.objs.size by simpa using hb) with z | z
      · rw [z]; exact Nat.le_add_right _ _
      · rw [z]; exact Nat.le_refl _
    exact I1.fpOk hle (I1.hok.fresh hle)
theorem walk_enumT {K : PySem.W.Frag} {a : Addr} {xs : List V} : Walk (ItU K a) xs.length (fun G => SqT K G a xs) (YPair (fun i => some (.int (i : Nat))) (fun i => xs[i]?)) where
  goes := fun i G hi h => ⟨xs, xs[i], h, List.getElem?_eq_getElem hi⟩
  stops := fun G h => ⟨xs, h, Nat.le_refl _⟩
  yields := fun i G v G' hi h y => by
    obtain ⟨T, x, e1, e2, e3, e4⟩ := y
    exact ⟨T, .int (i : Nat), x, e1, e2, e3, rfl, e4 xs h⟩
end Ef

/-! try with one except clause; what is raised is wished for at the caller's slots; a caught error's fields and classes; list.count -/
namespace Ef
open PySem PySem.Spec PyProof.Rows L2
/-! ### calls whose errors are caught in the same frame -/
def tMethS (C : Addr) (m : Str) (sp : Sp) (E : L2.St → XK) (ta : TE) (t : TA) : TE := fun σ H Q => ta σ H fun x H1 => ∃ a dx fs, x = .ref a ∧ H1 a = some (.ins C dx fs) ∧ fs.lookup m = none ∧ t σ H1 fun vs H2 => sp (x :: vs) H2 Q (E σ)
def tMakeS (C : Addr) (sp : Sp) (E : L2.St → XK) (t : TA) : TE := fun σ H Q => t σ H fun vs H1 => ∀ x dx, H1 x = none → H1 dx = none → dx ≠ x →
  sp (.ref x :: vs) (upd (upd H1 dx (.own x)) x (.ins C dx [])) (fun v H2 => v = .non ∧ Q (.ref x) H2) (E σ)
section
variable {X : Cx} {CX : CXT} {k j : Nat} {C f : Addr} {fd : FuncData} {x m : Str} {ps : List Str} {sp : Sp} {E : L2.St → XK} {p pos apos : Pos} {e o : Expr} {es : List Expr} {t : TA} {ta : TE}
theorem pf_callS (c : Cal X.prog X.w X.K X.mg X.base CX k x ps sp) (hr : Room j X.A) (hk : k ≤ j) (hg : Gl X x) (hx : ∀ σ, PassesAt CX X σ (E σ)) (ha : PA X (e :: es) t)
    (hdb : (x == ("__debug__" : Str)) = false := by decide) (he : starEach (e :: es) X.env = (false, eval e X.env) :: starEach es X.env := by rfl) (hpl : (backTo pos (starEach es X.env)).any (·.1) = false := by rfl) :
    PE X (.Call (.Name x p) (e :: es) [] pos) (tCallS sp E t) := by
  obtain ⟨fd, F, b⟩ := c.ex
  exact pe_callS F (hr.mono hk) hg c.g c.kp b hx ha hdb he hpl
theorem pf_methS {pl : Sem Bool} (c : Met X.prog X.w X.K X.mg X.base CX k C m ps sp) (hr : Room j X.A) (hk : k ≤ j) (hx : ∀ σ, PassesAt CX X σ (E σ)) (he : PE X o ta) (ha : PA X (e :: es) t)
    (hst : starEach (e :: es) X.env = (false, eval e X.env) :: starEach es X.env := by rfl) (hpl : (backTo pos (starEach es X.env)).any (·.1) = false := by rfl)
    (ht : eval (.Call (.Attribute o m apos) (e :: es) [] pos) X.env = (do
      let v ← eval o X.env
      standAt apos.atName
      let (g, first) ← holding [v] (getMethod v m pl)
      callWith pos g first (backTo pos (starEach (e :: es) X.env)) (backToKw pos (keywordEach [] X.env))) := by rfl) :
    PE X (.Call (.Attribute o m apos) (e :: es) [] pos) (tMethS C m sp E ta t) := by
  obtain ⟨fd, F, b⟩ := c.ex
  refine ⟨fun pins s σ H Q I h => ?_⟩
  refine PySem.W.methodCall_KW (pl := pl) (thn (he.run pins s σ H _ I h) fun u s1 ⟨x, H1, I1, rx, a, dx, fs, ex, ea, l, q⟩ => ?_) ht
  subst ex
  obtain rfl : u = Value.ref a := rx
  refine getmeth_ok I1 ea c.cl c.mt l ?_
  refine PySem.W.callWith_K (first := [.ref a]) (h₀ := X.base) I.ok.mod.kin c.mt.kp (thn (ha.run pos pins s1 σ H1 _ I1 q) fun us s2 ⟨vs, H2, I2, r, q2⟩ => ⟨I2.kIn, ?_⟩) hst hpl
  exact run_fnS (us := .ref a :: us) (vs := .ref a :: vs) F (hr.mono hk) b (hx σ) I2 (.cons rfl r) q2
theorem pf_meth0S {pl : Sem Bool} (c : Met X.prog X.w X.K X.mg X.base CX k C m ps sp) (hr : Room j X.A) (hk : k ≤ j) (hx : ∀ σ, PassesAt CX X σ (E σ)) (he : PE X o ta)
    (ht : eval (.Call (.Attribute o m apos) [] [] pos) X.env = (do
      let v ← eval o X.env
      standAt apos.atName
      let (g, first) ← holding [v] (getMethod v m pl)
      callWith pos g first (backTo pos (starEach [] X.env)) (backToKw pos (keywordEach [] X.env))) := by rfl) :
    PE X (.Call (.Attribute o m apos) [] [] pos) (tMethS C m sp E ta tNil) := by
  obtain ⟨fd, F, b⟩ := c.ex
  refine ⟨fun pins s σ H Q I h => ?_⟩
  refine PySem.W.methodCall_KW (pl := pl) (thn (he.run pins s σ H _ I h) fun u s1 ⟨x, H1, I1, rx, a, dx, fs, ex, ea, l, q⟩ => ?_) ht
  subst ex
  obtain rfl : u = Value.ref a := rx
  refine getmeth_ok I1 ea c.cl c.mt l ?_
  exact PySem.W.callWith_K0 (first := [.ref a]) I1.kIn c.mt.kp (run_fnS (us := [.ref a]) (vs := [.ref a]) F (hr.mono hk) b (hx σ) I1 (.cons rfl .nil) q)
theorem run_makeS {pins : List (Addr × Obj)} {σ : L2.St} {H : Hp} {s : Shared} {Q : VK} {us : List Value} {vs : List V} {E : XK} (M : Mk X.K C f) (F : FnOk X.prog X.w X.K X.mg X.base CX k f fd ps sp) (hr : Room (k + 1) X.A) (hb : Binds X.K fd ps [])
    (hx : PassesAt CX X σ E) (I : Inv X pins σ H s) (r : Vals vs us)
    (h : ∀ x dx, H x = none → H dx = none → dx ≠ x → sp (.ref x :: vs) (upd (upd H dx (.own x)) x (.ins C dx [])) (fun v H2 => v = .non ∧ Q (.ref x) H2) E) :
    wpAny (model X.prog X.w) X.A (call (.ref C) us) (EP X pins σ Q) X.xe s := by
  have hq := h (s.heap.objs.size + 1) s.heap.objs.size (I.hok.fresh (Nat.le_succ _)) (I.hok.fresh (Nat.le_refl _)) (Nat.ne_of_lt (Nat.lt_succ_self _))
  have I2 := Inv.made (C := C) I
  have r2 : Vals (V.ref (s.heap.objs.size + 1) :: vs) (Value.ref (s.heap.objs.size + 1) :: us) := .cons rfl r
  have hl : (Value.ref (s.heap.objs.size + 1) :: us).length = ps.length := by
    have e := r2.length
    rw [F.len _ _ _ _ hq] at e
    exact e.symm
  have b := hb { s with heap := _ } (Value.ref (s.heap.objs.size + 1) :: us) I2.kIn (by rw [List.append_nil]; exact hl)
  rw [List.append_nil] at b
  refine wpAny_call (make_map (f := f) I.kIn M.makes M.init (beq_iff_eq.mp M.fn) (codeAny_mono (F.run _ X.stack _ _ ⟨Value.ref (s.heap.objs.size + 1) :: us, []⟩ (Value.ref (s.heap.objs.size + 1) :: us) _ _ E (hr.make C us [])
    (I2.env0.make C us []) b r2 hq) fun r s' hq' => ?_))
  cases r with
  | error e => exact hx pins _ _ e s' I2 hq'
  | ok fl =>
    cases fl with
    | ret u =>
      obtain ⟨v, H', I3, rv, ev, q3⟩ := I2.after hq'
      subst ev
      exact ⟨rv, ⟨V.ref (s.heap.objs.size + 1), H', I3, rfl, q3⟩⟩
    | next => exact False.elim hq'
    | brk => exact False.elim hq'
    | cont => exact False.elim hq'
theorem pf_makeS (c : Mak X.prog X.w X.K X.mg X.base CX k x ps sp) (hr : Room j X.A) (hk : k + 1 ≤ j) (hg : Gl X x) (hx : ∀ σ, PassesAt CX X σ (E σ)) (ha : PA X (e :: es) t)
    (hdb : (x == ("__debug__" : Str)) = false := by decide) (he : starEach (e :: es) X.env = (false, eval e X.env) :: starEach es X.env := by rfl) (hpl : (backTo pos (starEach es X.env)).any (·.1) = false := by rfl) :
    PE X (.Call (.Name x p) (e :: es) [] pos) (tMakeS (He.ga X.K x) sp E t) := by
  obtain ⟨fd, F, b⟩ := c.ex
  refine ⟨fun pins s σ H Q I h => ?_⟩
  refine wpAny_Call_Name_kw (ld_glob I hg c.g ?_ hdb)
  refine PySem.W.callWith_K (h₀ := X.base) I.ok.mod.kin c.maker.kp (thn (ha.run pos pins s σ H _ I h) fun us s1 ⟨vs, H1, I1, r, q⟩ => ⟨I1.kIn, ?_⟩) he hpl
  exact run_makeS c.maker F (hr.mono hk) b (hx σ) I1 r q
end
/-! ### the statement -/
def W0 : WX := fun _ _ _ _ => False
def tTryAs (K : PySem.W.Frag) (c : Value) (i : Nat) (tb : WX → TS) (ts : Addr → Value → Option Addr → TS) : TS := fun D σ H => tb (wAs K c i ts W0 D) D σ H
def tTryOn (K : PySem.W.Frag) (c : Value) (tb : WX → TS) (ts : Addr → Value → Option Addr → TS) : TS := fun D σ H => tb (wOnly K c ts W0 D) D σ H
/-! ### a caught error: its fields, its classes -/
structure IsxC (K : PySem.W.Frag) (C : Addr) : Prop where
  ga : PySem.W.findIn K (.ref C) "__getattribute__" = some (some (.builtin "BaseException.__getattribute__"))
  gg : PySem.W.findIn K (.ref C) "__getattr__" = some none
  exC : PySem.W.subIn K (.ref C) (.type "BaseException") = some true
  hdC : PySem.W.hasDictIn K C = true
  ha : PySem.W.findIn K (.ref C) "__class__" = some (some (.builtin "object.__class__"))
  hn : PySem.W.specialIn K (.builtin "object.__class__") "__get__" = some (some (.builtin "getset_descriptor.__get__"))
  ht : PySem.W.takesIn K (.builtin "object.__class__") = some true
  hm : PySem.W.mroIn K C (.type "object") = some true
def isxB (K : PySem.W.Frag) (x : Str) : Bool := decide (PySem.W.findIn K (.ref (He.ga K x)) "__getattribute__" = some (some (.builtin "BaseException.__getattribute__"))) && (decide (PySem.W.findIn K (.ref (He.ga K x)) "__getattr__" = some none) &&
  (decide (PySem.W.subIn K (.ref (He.ga K x)) (.type "BaseException") = some true) && (PySem.W.hasDictIn K (He.ga K x) && (decide (PySem.W.findIn K (.ref (He.ga K x)) "__class__" = some (some (.builtin "object.__class__"))) &&
  (decide (PySem.W.specialIn K (.builtin "object.__class__") "__get__" = some (some (.builtin "getset_descriptor.__get__"))) && (decide (PySem.W.takesIn K (.builtin "object.__class__") = some true) && decide (PySem.W.mroIn K (He.ga K x) (.type "object") = some true)))))))
theorem isxB_ok {K : PySem.W.Frag} {x : Str} (h : isxB K x = true) : IsxC K (He.ga K x) := by
  unfold isxB at h
  simp only [Bool.and_eq_true, decide_eq_true_eq] at h
  obtain ⟨h1, h2, h3, h4, h5, h6, h7, h8⟩ := h
  exact ⟨h1, h2, h3, h4, h5, h6, h7, h8⟩
/-- err.f in an except suite; a the caught error, cls its class, d its dict -/
def tXg (K : PySem.W.Frag) (a : Addr) (cls : Value) (d : Option Addr) (f : Str) (te : TE) : TE := fun σ H Q => te σ H fun x H1 => x = .ref a ∧ ∃ (C dd : Addr) (fs : List (Str × V)) (v : V), cls = .ref C ∧ d = some dd ∧ IsxC K C ∧ PySem.W.findIn K (.ref C) f = some none ∧ H1 dd = some (.xd fs) ∧ fs.lookup f = some v ∧ Q v H1
theorem pe_xg {X : Cx} {a : Addr} {oe : Obj} {cls : Value} {d : Option Addr} {pn : List (Addr × Obj)} {e : Expr} {te : TE} {pos : Pos} {n : Str} (hz : Zc cls d oe) (hf : ∃ vs, oe.data = .fields vs) (he : PE (X.suite a ((a, oe) :: pn)) e te) (hb : attributeBase e n X.env (eval e X.env) = eval e X.env := by rfl) :
    PE (X.suite a ((a, oe) :: pn)) (.Attribute e n pos) (tXg X.K a cls d n te) := by
  refine ⟨fun pins s σ H Q I h => ?_⟩
  refine attr_of hb (thn (he.run pins s σ H _ I h) fun u s1 hh => ?_)
  obtain ⟨x, H1, I1, rx, ex, C, dd, fs, v, ec, ed, T, hno, ea, l, q⟩ := hh
  subst ex
  obtain rfl : u = Value.ref a := rx
  subst ec
  subst ed
  obtain ⟨ha, _⟩ := I1.pin (a, oe) (List.mem_append_left _ List.mem_cons_self)
  obtain ⟨vs, hd⟩ := hf
  have hx : ObjOk X.prog X.w H1 s1.heap dd (.xd fs) := I1.hok dd _ ea
  obtain ⟨mA, hns, hr⟩ := hx
  obtain ⟨od, ho, hl⟩ := lookIn_ns hns
  obtain ⟨u, hu, ru⟩ := RelO.some_of (v := v) (o := mA n) (by rw [← l]; exact hr n)
  have J : PySem.W.InstAt s1.heap a oe C (some od) := ⟨ha, hz.1, by unfold PySem.W.notCls; rw [hd] <;> rfl, by rw [hz.2]; exact ho⟩
  exact HandSPX.exc_get I1.kIn J T.ga T.gg T.exC (PySem.W.findObj_own T.hdC hno rfl (by rw [hl, hu])) (handed_of ru) ⟨v, H1, I1.tok _, ru, q⟩
/-- isinstance(err, c) in an except suite -/
def rIsX (K : PySem.W.Frag) (a : Addr) (cls : Value) (d : Option Addr) : List V → Hp → VK → Prop := fun xs H Q => ∃ (c : V) (cv : Value) (b : Bool) (D dd : Addr) (fs : List (Str × V)), xs = [.ref a, c] ∧ cls = .ref D ∧ d = some dd ∧ IsxC K D ∧ H dd = some (.xd fs) ∧ (∀ u, RelV c u → u = cv) ∧ PySem.W.kitOne K (.ref D) cv = some b ∧ Q (.bl b) H
theorem call_isX {X : Cx} {a : Addr} {cls : Value} {d : Option Addr} {oe : Obj} {pn : List (Addr × Obj)} (hz : Zc cls d oe) (hf : ∃ vs, oe.data = .fields vs) : CallR (X.suite a ((a, oe) :: pn)) (.builtin "isinstance") (rIsX X.K a cls d) := by
  intro pins s σ H xs us Q I r h
  obtain ⟨c, cv, b, D, dd, fs, rfl, rfl, rfl, T, ea, hcv, e, q⟩ := h
  cases r with
  | cons rx rr =>
    cases rr with
    | cons rt rr =>
      cases rr
      cases rx
      have ec := hcv _ rt
      subst ec
      obtain ⟨hget, _⟩ := I.pin (a, oe) (List.mem_append.mpr (.inl List.mem_cons_self))
      obtain ⟨vs, hv⟩ := hf
      have hx : ObjOk X.prog X.w H s.heap dd (.xd fs) := I.hok dd _ ea
      obtain ⟨mA, hns, hr⟩ := hx
      obtain ⟨od, ho, hl⟩ := lookIn_ns hns
      have J : PySem.W.InstAt s.heap a oe D (some od) := ⟨hget, hz.1, by unfold PySem.W.notCls; rw [hv] <;> rfl, by rw [hz.2]; exact ho⟩
      obtain ⟨cd, hc, _⟩ := PySem.W.any_some T.hdC
      exact PySem.W.kia_one (PySem.W.kitx_exc (by rw [hc]; rfl) T.ga T.gg T.exC T.ha T.hn T.ht T.hm) I.kIn J e (fun z => nomatch z) fun tk => ⟨.bl b, H, I.kept (t' := tk) fun _ _ z => z, rfl, q⟩
/-! ### list.count of flat values -/
def rCntV (K : PySem.W.Frag) : V → List V → Hp → VK → Prop := fun x xs H Q => ∃ (p : Addr) (ys : List V) (k : V), x = .ref p ∧ xs = [k] ∧ SqL K H p ys ∧ flatV k = true ∧ ys.all flatV = true ∧ Q (.int (ys.countP fun y => eqV y k : Nat)) H
theorem count_eqU {x : V} : ∀ {xs : List V} {us : List Value}, Vals xs us → xs.all flatV = true → us.countP (eqU x) = xs.countP fun y => eqV y x
  | _, _, .nil, _ => rfl
  | y :: xs, u :: us, .cons r t, f => by
    rw [List.all_cons, Bool.and_eq_true] at f
    rw [List.countP_cons, List.countP_cons, eqU_of r f.1, count_eqU t f.2]
theorem mt_lcountV {X : Cx} : MtR X "list.count" (rCntV X.K) := by
  intro pins s σ H x xs v us Q I rx rxs h
  obtain ⟨p, ys, k, rfl, rfl, hs, fk, fs, q⟩ := h
  cases rx
  obtain ⟨u, rfl, ru⟩ := rxs.one
  obtain ⟨its, rv, ⟨⟨cls, dd, data, sl⟩, n, ho, hc, hdn, hd⟩, hlen⟩ := I.list hs
  simp only at hc hd
  subst hc hd
  refine call_meets PySem.F.slot_list_count ⟨_, ho, rfl⟩ PySem.F.entry_list_count (PySem.F.args_list_count_2 _ _)
    (SeqAt.list_countAt p its.toArray n dd sl u (eqU k)) ⟨ho, fun y hy => mem_eqAt ru fk rv fs y (by simpa using hy), ?_⟩
  have ec : its.toArray.toList.countP (eqU k) = ys.countP fun y => eqV y k := count_eqU rv fs
  refine ⟨.int (ys.countP fun y => eqV y k : Nat), H, I.tok _, ⟨s.toks, ?_⟩, q⟩
  show Value.int ((its.toArray.toList.countP (eqU k) : Nat) : Int) s.toks = Value.int ((ys.countP fun y => eqV y k : Nat) : Int) s.toks
  rw [ec]
end Ef

/-! own words: promises -/
namespace Ef
open PySem PySem.Spec PyProof.Rows L2
abbrev Ex := Evl.Ex
def reserved : List Str := ["class", "shared", "promise", "value", "init", "method", "getter", "setter", "chained", "final", "set", "keep", "read", "look", "call", "super", "of", "make", "fail", "try", "catch", "if", "else", "either", "or", "loop"]
def smalls : Str := "abcdefghijklmnopqrstuvwxyz"
/-- whether a text is a word -/
def fitsW (z : Str) : Bool := (decide (1 ≤ z.length) && decide (z.length ≤ 8)) && (!decide (z ∈ reserved) && z.cps.toList.all fun c => decide (c ∈ smalls.cps.toList))
/-- plain signs -/
def Asc (z : Str) : Prop := ∀ c ∈ z.cps.toList, c < 128
def spText1 (f : Str → Bool) : Sp := fun vs H Q _ => ∃ z : Str, vs = [.str z] ∧ z.length ≤ 100000 ∧ ∀ H', Ex H H' → Q (.bl (f z)) H'
abbrev sp_fits_word : Sp := spText1 fitsW
/-- the bag of a law: a list of two numbers -/
def Bag (H : Hp) (b : Addr) : Prop := ∃ x s : Int, H b = some (.lst [.int x, .int s]) ∧ 0 ≤ x ∧ 0 ≤ s ∧ s < 2147483648
/-- all but the bag stays, the bag stays a bag -/
structure Le (b : Addr) (H H' : Hp) : Prop where
  keep : ∀ a o, a ≠ b → H a = some o → H' a = some o
  bag : Bag H b → Bag H' b
def sp_bag (K : PySem.W.Frag) : Sp := fun vs H Q _ => ∃ (a : Addr) (ns : List Int) (i : Int), vs = [.ref a, .int i] ∧ SqL K H a (ns.map V.int) ∧ ns.length ≤ 63 ∧ 0 ≤ i ∧ i ≤ 1000 ∧ ∀ H' b, Ex H H' → H b = none → Bag H' b → Q (.ref b) H'
def sp_draw : Sp := fun vs H Q _ => ∃ (b : Addr) (m : Int), vs = [.ref b, .int m] ∧ Bag H b ∧ 0 < m ∧ m ≤ 10 ^ 30 ∧ ∀ H' (d : Int), Le b H H' → 0 ≤ d → d < m → Q (.int d) H'
def sp_one (K : PySem.W.Frag) : Sp := fun vs H Q _ => ∃ (b l : Addr) (xs : List V), vs = [.ref b, .ref l] ∧ Bag H b ∧ l ≠ b ∧ SqL K H l xs ∧ xs ≠ [] ∧ xs.length ≤ 100000 ∧ ∀ H' x, Le b H H' → x ∈ xs → Q x H'
end Ef

namespace Ef
open PySem PySem.Spec PyProof.Rows L2 Evl
section
variable {K : PySem.W.Frag}
theorem Bag.none {H : Hp} {b : Addr} (h : Bag H b) : H b ≠ none := by
  obtain ⟨x, s, e, _⟩ := h
  rw [e]; exact fun z => nomatch z
theorem Le.refl {b : Addr} {H : Hp} : Le b H H := ⟨fun _ _ _ e => e, fun h => h⟩
theorem Le.trans {b : Addr} {H H1 H2 : Hp} (x : Le b H H1) (y : Le b H1 H2) : Le b H H2 := ⟨fun a o n e => y.keep a o n (x.keep a o n e), fun h => y.bag (x.bag h)⟩
theorem Le.of {b : Addr} {H H1 : Hp} (x : Evl.Ex H H1) : Le b H H1 := ⟨fun a o _ e => x a o e, fun ⟨u, s, e, r⟩ => ⟨u, s, x _ _ e, r⟩⟩
theorem Le.back {b : Addr} {H H1 : Hp} (x : Le b H H1) (hb : Bag H b) {p : Addr} (h : H1 p = .none) : H p = .none := by
  by_cases e : p = b
  · subst e; exact absurd h (x.bag hb).none
  · cases q : H p with
    | none => rfl
    | some o => rw [x.keep p o e q] at h; cases h
theorem Le.sql {b a : Addr} {H H1 : Hp} {xs : List V} (x : Le b H H1) (n : a ≠ b) (h : SqL K H a xs) : SqL K H1 a xs := by
  rcases h with (h | ⟨o, h⟩) | h
  · exact .inl (.inl (x.keep _ _ n h))
  · exact .inl (.inr ⟨o, x.keep _ _ n h⟩)
  · exact .inr h
theorem len_spText1 {f : Str → Bool} {vs : List V} {H : Hp} {Q : VK} {E : XK} (h : spText1 f vs H Q E) : vs.length = 1 := by
  obtain ⟨z, rfl, _⟩ := h; rfl
theorem inV_strs (z : Str) : ∀ ys : List Str, inV (.str z) (ys.map V.str) = decide (z ∈ ys)
  | [] => by simp [inV]
  | y :: r => by
    have ih := inV_strs z r
    unfold inV at ih ⊢
    rw [List.map_cons, List.any_cons, ih]
    by_cases e : z = y
    · subst e; simp [eqV]
    · have e2 : ¬ y = z := fun q => e q.symm
      simp [eqV, e, e2]
theorem flat_strs : ∀ ys : List Str, (ys.map V.str).all flatV = true
  | [] => rfl
  | y :: r => by rw [List.map_cons, List.all_cons, flat_strs r]; rfl
theorem filter_true {α : Type} (l : List α) : l.filter (fun _ => true) = l := by simp
theorem et_yes {σ : L2.St} {H : Hp} : EvT tYes σ H true := fun H1 _ _ q => q H1 (Evl.Ex.refl H1)
theorem len__law_bag {vs : List V} {H : Hp} {Q : VK} {E : XK} (h : sp_bag K vs H Q E) : vs.length = 2 := by
  obtain ⟨a, ns, i, rfl, _⟩ := h; rfl
theorem len__law_draw {vs : List V} {H : Hp} {Q : VK} {E : XK} (h : sp_draw vs H Q E) : vs.length = 2 := by
  obtain ⟨a, m, rfl, _⟩ := h; rfl
theorem len__law_one {vs : List V} {H : Hp} {Q : VK} {E : XK} (h : sp_one K vs H Q E) : vs.length = 2 := by
  obtain ⟨a, l, m, rfl, _⟩ := h; rfl
theorem cmul_l {i j : Int} (h : 0 ≤ i) (h2 : i ≤ 1000000000000) : CMul i j := .inl ⟨by omega, by omega⟩
theorem ev_ix {σ : L2.St} {H : Hp} {ta tb : TE} {a : Addr} {xs : List V} {i : Int} {v : V} (h1 : Ev ta σ H (.ref a)) (h2 : Ev tb σ H (.int i)) (hs : SqL K H a xs) (hi : atI xs i = some v) : Ev (tOp (rIxL K) ta tb) σ H v := ev_op h1 h2 (rv_ixL hs hi)
theorem ev_ixT {σ : L2.St} {H : Hp} {ta tb : TE} {a : Addr} {xs : List V} {i : Int} {v : V} (h1 : Ev ta σ H (.ref a)) (h2 : Ev tb σ H (.int i)) (hs : SqT K H a xs) (hi : atI xs i = some v) : Ev (tOp (rIxT K) ta tb) σ H v := ev_op h1 h2 (rv_ixT hs hi)
theorem atI_int {ns : List Int} {i : Int} (h0 : 0 ≤ i) (h1 : i < ns.length) : ∃ c, atI (ns.map V.int) i = some (.int c) := by
  obtain ⟨j, rfl⟩ := Int.eq_ofNat_of_zero_le h0
  have hj : j < ns.length := by omega
  refine ⟨ns[j], atI_nat ?_⟩
  rw [List.getElem?_map, List.getElem?_eq_getElem hj]; rfl
theorem atI0 (x y : V) : atI [x, y] 0 = some x := rfl
theorem atI1 (x y : V) : atI [x, y] 1 = some y := rfl
theorem ev_ixS {σ : L2.St} {H : Hp} {ta tb : TE} {z : Str} {i : Int} {c : Nat} (h1 : Ev ta σ H (.str z)) (h2 : Ev tb σ H (.int i)) (hz : z.length ≤ 100000) (hi : atI z.cps.toList i = some c) : Ev (tOp rIxS ta tb) σ H (.str ⟨#[c]⟩) := ev_op h1 h2 (rv_ixS hz hi)
theorem len_app (a b : Str) : (a ++ b).length = a.length + b.length := by
  rw [TL.len_tl, TL.len_tl, TL.len_tl, TL.tl_append, List.length_append]
theorem smalls_len : (TL.tl ("abcdefghijklmnopqrstuvwxyz" : Str)).length = 26 := by decide +kernel
instance (z : Str) : Decidable (Asc z) := by unfold Asc; infer_instance
theorem asc_app {a b : Str} (ha : Asc a) (hb : Asc b) : Asc (a ++ b) := fun c hc => by
  have : c ∈ TL.tl (a ++ b) := hc
  rw [TL.tl_append] at this
  rcases List.mem_append.mp this with q | q
  · exact ha c q
  · exact hb c q
theorem asc_one {c : Nat} (h : c < 128) : Asc ⟨#[c]⟩ := fun d hd => by
  have : d ∈ [c] := hd
  rw [List.mem_singleton.mp this]; exact h
theorem asc_smalls : Asc "abcdefghijklmnopqrstuvwxyz" := by unfold Asc; decide +kernel
theorem asc_cut {z : Str} (h : Asc z) (lo hi : Option Int) : Asc (cutS z lo hi) := fun c hc => by
  have : c ∈ ((z.cps.toList.drop (HT.sIx z.length 0 lo)).take (HT.sIx z.length z.length hi - HT.sIx z.length 0 lo)) := hc
  exact h c (List.mem_of_mem_drop (List.mem_of_mem_take this))
theorem cutS_len (z : Str) (lo hi : Option Int) : (cutS z lo hi).length ≤ z.length := cutS_length z lo hi
theorem strOk_asc {z : Str} (h : Asc z) : PyData.strOk z = true := by
  unfold PyData.strOk
  rw [Array.all_eq_true_iff_forall_mem]
  intro c hc
  have := h c (by simpa using hc)
  exact decide_eq_true (by omega)
theorem dps_strs {H : Hp} : ∀ ys : List Str, DpAll K H (ys.map V.str) (ys.map PyData.str)
  | [] => .nil
  | y :: r => .cons (.str y) (dps_strs r)
theorem lay_strs : ∀ ys : List Str, (∀ y ∈ ys, Asc y) → PyData.canLayAll0 (ys.map PyData.str) = true
  | [], _ => by simp [PyData.canLayAll0]
  | y :: r, h => by
    rw [List.map_cons]
    simp only [PyData.canLayAll0, PyData.canLay0]
    rw [strOk_asc (h y List.mem_cons_self), lay_strs r fun z hz => h z (List.mem_cons_of_mem _ hz)]
    rfl
theorem depth_strs : ∀ ys : List Str, PyData.depthAll (ys.map PyData.str) = 0
  | [] => by simp [PyData.depthAll]
  | y :: r => by
    rw [List.map_cons]
    simp only [PyData.depthAll, PyData.depth]
    rw [depth_strs r]; rfl
theorem shaped_strs (ys : List Str) (h : ∀ y ∈ ys, Asc y) : SeqAt.shaped (.list (ys.map PyData.str)) = true := by
  unfold SeqAt.shaped
  rw [Bool.and_eq_true]
  refine ⟨by simp only [PyData.canLay0]; exact lay_strs ys h, decide_eq_true ?_⟩
  simp only [PyData.depth]
  rw [depth_strs]; decide
theorem shaped_nil : SeqAt.shaped (.list []) = true := by decide +kernel
theorem eqv_nil (ds : List PyData) : PyData.eqv (.list ds) (.list []) = ds.isEmpty := by
  cases ds <;> simp [PyData.eqv, PyData.eqvAll]
theorem ev_eqNil {σ : L2.St} {H : Hp} {ta : TE} {p : Addr} {ys : List Str} (h : Ev ta σ H (.ref p)) (hs : SqL K H p (ys.map V.str)) (ha : ∀ y ∈ ys, Asc y) : Ev (tOp (rEqD K) ta (tLst tNil)) σ H (.bl ys.isEmpty) :=
  ev_opL h (el_lst ea_nil (by decide)) fun q H1 h1 e1 H2 e2 Q k => ⟨_, _, .lst (ex_l (e1.trans e2) hs) (dps_strs ys), .lst (sq_of (e2 _ _ h1)) .nil, shaped_strs ys ha, shaped_nil, by
    rw [eqv_nil]
    have : (ys.map PyData.str).isEmpty = ys.isEmpty := by cases ys <;> rfl
    rw [this]
    exact k H2 (Evl.Ex.refl H2)⟩
theorem ev_neNil {σ : L2.St} {H : Hp} {ta : TE} {p : Addr} {ys : List Str} (h : Ev ta σ H (.ref p)) (hs : SqL K H p (ys.map V.str)) (ha : ∀ y ∈ ys, Asc y) : Ev (tOp (rNeD K) ta (tLst tNil)) σ H (.bl (!ys.isEmpty)) :=
  ev_opL h (el_lst ea_nil (by decide)) fun q H1 h1 e1 H2 e2 Q k => ⟨_, _, .lst (ex_l (e1.trans e2) hs) (dps_strs ys), .lst (sq_of (e2 _ _ h1)) .nil, shaped_strs ys ha, shaped_nil, by
    rw [eqv_nil]
    have : (ys.map PyData.str).isEmpty = ys.isEmpty := by cases ys <;> rfl
    rw [this]
    exact k H2 (Evl.Ex.refl H2)⟩
def EvP (te : TE) (σ : L2.St) (H : Hp) (P : V → Hp → Prop) : Prop := ∀ H1, Evl.Ex H H1 → ∀ Q : VK, (∀ v H2, Evl.Ex H1 H2 → P v H2 → Q v H2) → te σ H1 Q
def EvAP (ta : TA) (σ : L2.St) (H : Hp) (n : Nat) (P : V → Hp → Prop) : Prop := ∀ H1, Evl.Ex H H1 → ∀ Q : List V → Hp → Prop, (∀ vs H2, Evl.Ex H1 H2 → vs.length = n → (∀ v ∈ vs, P v H2) → Q vs H2) → ta σ H1 Q
def Up (P : V → Hp → Prop) : Prop := ∀ v H H', Evl.Ex H H' → P v H → P v H'
theorem eap_nil {σ : L2.St} {H : Hp} {P : V → Hp → Prop} : EvAP tNil σ H 0 P := fun H1 _ Q q => q [] H1 (Evl.Ex.refl H1) rfl fun _ h => nomatch h
theorem eap_cons {σ : L2.St} {H : Hp} {P : V → Hp → Prop} {te : TE} {ta : TA} {n : Nat} (up : Up P) (h : EvP te σ H P) (hr : EvAP ta σ H n P) : EvAP (tCons te ta) σ H (n + 1) P := fun H1 e Q q =>
  h H1 e _ fun v H2 e2 p => hr H2 (e.trans e2) _ fun vs H3 e3 hn ps => q (v :: vs) H3 (e2.trans e3) (by rw [List.length_cons, hn]) fun x hx => by
    rcases List.mem_cons.mp hx with rfl | hx
    · exact up _ _ _ e3 p
    · exact ps x hx
theorem evp_of {σ : L2.St} {H : Hp} {P : V → Hp → Prop} {te : TE} {v : V} (h : Ev te σ H v) (p : ∀ G, P v G) : EvP te σ H P := fun H1 e Q q => h H1 e Q fun H2 e2 => q v H2 e2 (p H2)
theorem evp_tup {σ : L2.St} {H : Hp} {P : V → Hp → Prop} {te : TE} {xs : List V} (h : EvU te σ H xs) (p : ∀ G a, G a = some (.tup xs) → P (.ref a) G) : EvP te σ H P := fun H1 e Q q => h H1 e Q fun a H2 _ e2 h2 => q _ H2 e2 (p H2 a h2)
theorem evp_lst {σ : L2.St} {H : Hp} {P : V → Hp → Prop} {te : TE} {xs : List V} (h : EvL te σ H xs) (p : ∀ G a, G a = some (.lst xs) → P (.ref a) G) : EvP te σ H P := fun H1 e Q q => h H1 e Q fun a H2 _ e2 h2 => q _ H2 e2 (p H2 a h2)
theorem evp_lstP {σ : L2.St} {H : Hp} {P P' : V → Hp → Prop} {ta : TA} {n : Nat} (h : EvAP ta σ H n P') (hn : n ≤ 100000) (p : ∀ G a xs, G a = some (.lst xs) → P (.ref a) G) : EvP (tLst ta) σ H P := fun H1 e Q q =>
  h H1 e _ fun vs H2 e2 hl _ => ⟨sz_of (by omega), fun a ha => q _ _ (e2.trans (Evl.Ex.new ha)) (p _ a vs upd_same)⟩
theorem q_asgLP {σ : L2.St} {H : Hp} {P : V → Hp → Prop} {ta : TA} {n i : Nat} {tz : TS} {D : Ends} (up : Up P) (h : EvAP ta σ H n P) (hn : n ≤ 100000)
    (k : ∀ xs p H1, xs.length = n → H p = none → Evl.Ex H H1 → H1 p = some (.lst xs) → (∀ x ∈ xs, P x H1) → tz D (σ.set i (some (.ref p))) H1) : tSeq (tAsg (tLst ta) (gName i)) tz D σ H :=
  h H (Evl.Ex.refl H) _ fun vs H2 e2 hl hp => ⟨sz_of (by omega), fun a ha => k vs a _ hl (fresh_back e2 ha) (e2.trans (Evl.Ex.new ha)) upd_same fun x hx => up _ _ _ (Evl.Ex.new ha) (hp x hx)⟩
theorem le_ex {b : Addr} {H H1 H2 : Hp} (e : Evl.Ex H H1) (hb : H b = none) (l : Le b H1 H2) : Evl.Ex H H2 := fun x o h => l.keep x o (ne_of_none h hb) (e x o h)
end
end Ef

/-! bodies: own data, tokens, texts, what reading gives -/
namespace Ef
open PySem PySem.Spec PyProof.Rows L2
def larges : Str := "ABCDEFGHIJKLMNOPQRSTUVWXYZ"
def letters : Str := "abcdefghijklmnopqrstuvwxyzABCDEFGHIJKLMNOPQRSTUVWXYZ"
/-- whether a text is a class name -/
def fitsC (z : Str) : Bool := (decide (1 ≤ z.length) && decide (z.length ≤ 8)) && ((match z.cps.toList with | [] => false | c :: r => decide (c ∈ larges.cps.toList) && r.all fun c => decide (c ∈ smalls.cps.toList)))
abbrev sp_fits_class : Sp := spText1 fitsC
def wordSteps : List Str := ["set", "keep", "read", "look", "call"]
def classSteps : List Str := ["of", "make"]
def nestedSteps : List Str := ["loop", "if", "try", "either"]
def bareSteps : List Str := ["super", "fail"]
def startSteps : List Str := ["set", "keep", "read", "look", "call", "of", "make", "super", "fail", "loop", "if", "try", "either"]
/-! ### bodies -/
mutual
inductive Stp where
  | word (k n : Str)
  | bare (k : Str)
  | loop (b : Bdy)
  | cond (n : Str) (b c : Bdy)
  | tri (b c : Bdy)
  | alt (bs : Bds)
inductive Bdy where
  | nil
  | cons (s : Stp) (b : Bdy)
inductive Bds where
  | nil
  | cons (b : Bdy) (bs : Bds)
end
mutual
def Stp.dat : Stp → PyData
  | .word k n => .tuple [.str k, .str n]
  | .bare k => .tuple [.str k]
  | .loop b => .tuple [.str "loop", .tuple b.dats]
  | .cond n b c => .tuple [.str "if", .str n, .tuple b.dats, .tuple c.dats]
  | .tri b c => .tuple [.str "try", .tuple b.dats, .tuple c.dats]
  | .alt bs => .tuple [.str "either", .tuple bs.dats]
def Bdy.dats : Bdy → List PyData
  | .nil => []
  | .cons s b => s.dat :: b.dats
def Bds.dats : Bds → List PyData
  | .nil => []
  | .cons b bs => .tuple b.dats :: bs.dats
end
/-- tokens within braces -/
def curl (l : List Str) : List Str := ("{" : Str) :: (l ++ [("}" : Str)])
mutual
def Stp.toks : Stp → List Str
  | .word k n => [k, n, ";"]
  | .bare k => [k, ";"]
  | .loop b => "loop" :: curl b.toks
  | .cond n b c => "if" :: n :: (curl b.toks ++ ("else" : Str) :: curl c.toks)
  | .tri b c => "try" :: (curl b.toks ++ ("catch" : Str) :: curl c.toks)
  | .alt bs => bs.toks "either"
def Bdy.toks : Bdy → List Str
  | .nil => []
  | .cons s b => s.toks ++ b.toks
def Bds.toks : Bds → Str → List Str
  | .nil, _ => []
  | .cons b bs, w => w :: (curl b.toks ++ bs.toks "or")
end
mutual
def Stp.txt : Stp → Str
  | .word k n => Txt.join " " [k, n] ++ ";"
  | .bare k => Txt.join " " [k] ++ ";"
  | .loop b => "loop " ++ b.blk
  | .cond n b c => "if " ++ n ++ " " ++ b.blk ++ " else " ++ c.blk
  | .tri b c => "try " ++ b.blk ++ " catch " ++ c.blk
  | .alt bs => "either " ++ Txt.join " or " bs.blks
def Bdy.txts : Bdy → List Str
  | .nil => []
  | .cons s b => s.txt :: b.txts
def Bdy.blk : Bdy → Str
  | .nil => "{ }"
  | .cons s b => "{ " ++ Txt.join " " (s.txt :: b.txts) ++ " }"
def Bds.blks : Bds → List Str
  | .nil => []
  | .cons b bs => b.blk :: bs.blks
end
def Bdy.txt (b : Bdy) : Str := Txt.join " " b.txts
mutual
/-- how many blocks lie within one another -/
def Stp.dep : Stp → Nat
  | .word _ _ => 0
  | .bare _ => 0
  | .loop b => b.dep + 1
  | .cond _ b c => max b.dep c.dep + 1
  | .tri b c => max b.dep c.dep + 1
  | .alt bs => bs.dep + 1
def Bdy.dep : Bdy → Nat
  | .nil => 0
  | .cons s b => max s.dep b.dep
def Bds.dep : Bds → Nat
  | .nil => 0
  | .cons b bs => max b.dep bs.dep
end
def Bds.count : Bds → Nat
  | .nil => 0
  | .cons _ bs => bs.count + 1
mutual
/-- well written -/
def Stp.ok : Stp → Prop
  | .word k n => (k ∈ wordSteps ∧ fitsW n = true) ∨ (k ∈ classSteps ∧ fitsC n = true)
  | .bare k => k ∈ bareSteps
  | .loop b => b.ok
  | .cond n b c => fitsW n = true ∧ b.ok ∧ c.ok
  | .tri b c => b.ok ∧ c.ok
  | .alt bs => 2 ≤ bs.count ∧ bs.ok
def Bdy.ok : Bdy → Prop
  | .nil => True
  | .cons s b => s.ok ∧ b.ok
def Bds.ok : Bds → Prop
  | .nil => True
  | .cons b bs => b.ok ∧ bs.ok
end
/-! ### tokens of a text -/
def isLet (c : Nat) : Bool := decide (c ∈ letters.cps.toList)
def isBlank (c : Nat) : Bool := decide (c ∈ (" \n" : Str).cps.toList)
def tokenize (pos : Nat) : List Nat → List (Nat × List Nat)
  | [] => []
  | c :: r =>
    if isLet c then (pos, c :: r.takeWhile isLet) :: tokenize (pos + 1 + (r.takeWhile isLet).length) (r.dropWhile isLet)
    else if isBlank c then tokenize (pos + 1) r else (pos, [c]) :: tokenize (pos + 1) r
termination_by l => l.length
decreasing_by
  · simp only [List.length_cons]
    have := (List.dropWhile_sublist (l := r) isLet).length_le
    omega
  · simp
  · simp
def tokens (z : Str) : List (Int × Str) := (tokenize 0 z.cps.toList).map fun t => ((t.1 : Int), ⟨t.2.toArray⟩)
/-- a list of rows (position, token) stands at p -/
def Rows (H : Hp) (p : Addr) (T : List (Int × Str)) : Prop := ∃ as : List Addr, H p = some (.lst (as.map V.ref)) ∧ as.length = T.length ∧ ∀ (i : Nat) a t, as[i]? = some a → T[i]? = some t → H a = some (.tup [.int t.1, .str t.2])
def sp_tokens_of : Sp := fun vs H Q _ => ∃ z : Str, vs = [.str z] ∧ z.length ≤ 100000 ∧ ∀ H' p, Ex H H' → H p = none → Rows H' p (tokens z) → Q (.ref p) H'
/-! ### the reader -/
def tkAt (T : List (Int × Str)) (n : Nat) : Str := match T[n]? with | some t => t.2 | none => ""
def psAt (T : List (Int × Str)) (len : Int) (n : Nat) : Int := match T[n]? with | some t => t.1 | none => len
def Rdr (K : PySem.W.Frag) (H : Hp) (r l : Addr) (T : List (Int × Str)) (len : Int) (n : Nat) : Prop :=
  ∃ dx, H r = some (.ins (He.ga K "Reader") dx [("tokens", .ref l), ("length", .int len), ("passed", .int n)]) ∧ Rows H l T ∧ T.length ≤ 100000 ∧ n ≤ T.length ∧ ∀ t ∈ T, t.2.length ≤ 100000
/-- all but r stays -/
def But (r : Addr) (H H' : Hp) : Prop := ∀ a o, a ≠ r → H a = some o → H' a = some o
/-- the error BadText at p may leave -/
def Bad (K : PySem.W.Frag) (r : Addr) (H : Hp) (E : XK) (p : Int) : Prop := ∀ H1 d, But r H H1 → H1 d = none → E (.ref (He.ga K "BadText")) (some d) (upd H1 d (.xd [("at", .int p)]))
def sp_Reader_init (K : PySem.W.Frag) : Sp := fun vs H Q _ => ∃ (r dx : Addr) (z : Str), vs = [.ref r, .str z] ∧ z.length ≤ 100000 ∧ H r = some (.ins (He.ga K "Reader") dx []) ∧ ∀ H' l, But r H H' → H l = none → Rdr K H' r l (tokens z) z.length 0 → Q .non H'
def sp_peek (K : PySem.W.Frag) : Sp := fun vs H Q _ => ∃ (r l : Addr) (T : List (Int × Str)) (len : Int) (n : Nat), vs = [.ref r] ∧ Rdr K H r l T len n ∧ ∀ H', Ex H H' → Q (.str (tkAt T n)) H'
def sp_position (K : PySem.W.Frag) : Sp := fun vs H Q _ => ∃ (r l : Addr) (T : List (Int × Str)) (len : Int) (n : Nat), vs = [.ref r] ∧ Rdr K H r l T len n ∧ ∀ H', Ex H H' → Q (.int (psAt T len n)) H'
def sp_skip (K : PySem.W.Frag) : Sp := fun vs H Q E => ∃ (r l : Addr) (T : List (Int × Str)) (len : Int) (n : Nat) (w : Str), vs = [.ref r, .str w] ∧ Rdr K H r l T len n ∧ w ≠ "" ∧
  (tkAt T n = w → ∀ H', But r H H' → Rdr K H' r l T len (n + 1) → Q .non H') ∧ (tkAt T n ≠ w → Bad K r H E (psAt T len n))
def sp_read_one (K : PySem.W.Frag) (f : Str → Bool) : Sp := fun vs H Q E => ∃ (r l : Addr) (T : List (Int × Str)) (len : Int) (n : Nat), vs = [.ref r] ∧ Rdr K H r l T len n ∧
  (f (tkAt T n) = true → ∀ H', But r H H' → Rdr K H' r l T len (n + 1) → Q (.str (tkAt T n)) H') ∧ (f (tkAt T n) = false → Bad K r H E (psAt T len n))
/-! ### reading, as a relation: at depth d from the n-th token -/
inductive Out (α : Type) where
  | good (x : α) (n : Nat)
  | bad (p : Int)
mutual
inductive RBody (T : List (Int × Str)) (len : Int) : Nat → Nat → Nat → Out Bdy → Prop where
  | stop {d n : Nat} : tkAt T n ∉ startSteps → RBody T len d n 0 (.good .nil n)
  | fail {d n : Nat} {p : Int} : tkAt T n ∈ startSteps → RStep T len d n (.bad p) → RBody T len d n 1 (.bad p)
  | next {d n n1 n2 k : Nat} {s : Stp} {b : Bdy} : tkAt T n ∈ startSteps → RStep T len d n (.good s n1) → n < n1 → RBody T len d n1 k (.good b n2) → RBody T len d n (k + 1) (.good (.cons s b) n2)
  | late {d n n1 k : Nat} {s : Stp} {p : Int} : tkAt T n ∈ startSteps → RStep T len d n (.good s n1) → n < n1 → RBody T len d n1 k (.bad p) → RBody T len d n (k + 1) (.bad p)
inductive RStep (T : List (Int × Str)) (len : Int) : Nat → Nat → Out Stp → Prop where
  | word {d n : Nat} : tkAt T n ∈ wordSteps → fitsW (tkAt T (n + 1)) = true → tkAt T (n + 2) = ";" → RStep T len d n (.good (.word (tkAt T n) (tkAt T (n + 1))) (n + 3))
  | wordN {d n : Nat} : tkAt T n ∈ wordSteps → fitsW (tkAt T (n + 1)) = false → RStep T len d n (.bad (psAt T len (n + 1)))
  | wordE {d n : Nat} : tkAt T n ∈ wordSteps → fitsW (tkAt T (n + 1)) = true → tkAt T (n + 2) ≠ ";" → RStep T len d n (.bad (psAt T len (n + 2)))
  | cls {d n : Nat} : tkAt T n ∈ classSteps → fitsC (tkAt T (n + 1)) = true → tkAt T (n + 2) = ";" → RStep T len d n (.good (.word (tkAt T n) (tkAt T (n + 1))) (n + 3))
  | clsN {d n : Nat} : tkAt T n ∈ classSteps → fitsC (tkAt T (n + 1)) = false → RStep T len d n (.bad (psAt T len (n + 1)))
  | clsE {d n : Nat} : tkAt T n ∈ classSteps → fitsC (tkAt T (n + 1)) = true → tkAt T (n + 2) ≠ ";" → RStep T len d n (.bad (psAt T len (n + 2)))
  | bare {d n : Nat} : tkAt T n ∈ bareSteps → tkAt T (n + 1) = ";" → RStep T len d n (.good (.bare (tkAt T n)) (n + 2))
  | bareE {d n : Nat} : tkAt T n ∈ bareSteps → tkAt T (n + 1) ≠ ";" → RStep T len d n (.bad (psAt T len (n + 1)))
  | nest {d n : Nat} {o : Out Stp} : tkAt T n ∈ nestedSteps → RNest T len d (tkAt T n) (n + 1) o → RStep T len d n o
inductive RNest (T : List (Int × Str)) (len : Int) : Nat → Str → Nat → Out Stp → Prop where
  | loop {d n n1 : Nat} {b : Bdy} : RBlk T len d n (.good b n1) → RNest T len d "loop" n (.good (.loop b) n1)
  | loopE {d n : Nat} {p : Int} : RBlk T len d n (.bad p) → RNest T len d "loop" n (.bad p)
  | alt {d n n1 : Nat} {bs : Bds} : RAlt T len d n (.good bs n1) → RNest T len d "either" n (.good (.alt bs) n1)
  | altE {d n : Nat} {p : Int} : RAlt T len d n (.bad p) → RNest T len d "either" n (.bad p)
  | tri {d n n1 n2 : Nat} {b c : Bdy} : RBlk T len d n (.good b n1) → tkAt T n1 = "catch" → RBlk T len d (n1 + 1) (.good c n2) → RNest T len d "try" n (.good (.tri b c) n2)
  | tri1 {d n : Nat} {p : Int} : RBlk T len d n (.bad p) → RNest T len d "try" n (.bad p)
  | tri2 {d n n1 : Nat} {b : Bdy} : RBlk T len d n (.good b n1) → tkAt T n1 ≠ "catch" → RNest T len d "try" n (.bad (psAt T len n1))
  | tri3 {d n n1 : Nat} {b : Bdy} {p : Int} : RBlk T len d n (.good b n1) → tkAt T n1 = "catch" → RBlk T len d (n1 + 1) (.bad p) → RNest T len d "try" n (.bad p)
  | cond {d n n1 n2 : Nat} {b c : Bdy} : fitsW (tkAt T n) = true → RBlk T len d (n + 1) (.good b n1) → tkAt T n1 = "else" → RBlk T len d (n1 + 1) (.good c n2) → RNest T len d "if" n (.good (.cond (tkAt T n) b c) n2)
  | cond0 {d n : Nat} : fitsW (tkAt T n) = false → RNest T len d "if" n (.bad (psAt T len n))
  | cond1 {d n : Nat} {p : Int} : fitsW (tkAt T n) = true → RBlk T len d (n + 1) (.bad p) → RNest T len d "if" n (.bad p)
  | cond2 {d n n1 : Nat} {b : Bdy} : fitsW (tkAt T n) = true → RBlk T len d (n + 1) (.good b n1) → tkAt T n1 ≠ "else" → RNest T len d "if" n (.bad (psAt T len n1))
  | cond3 {d n n1 : Nat} {b : Bdy} {p : Int} : fitsW (tkAt T n) = true → RBlk T len d (n + 1) (.good b n1) → tkAt T n1 = "else" → RBlk T len d (n1 + 1) (.bad p) → RNest T len d "if" n (.bad p)
inductive RBlk (T : List (Int × Str)) (len : Int) : Nat → Nat → Out Bdy → Prop where
  | deep {n : Nat} : RBlk T len 6 n (.bad (psAt T len n))
  | opn {d n : Nat} : d ≠ 6 → tkAt T n ≠ "{" → RBlk T len d n (.bad (psAt T len n))
  | body {d n k : Nat} {p : Int} : d ≠ 6 → tkAt T n = "{" → RBody T len (d + 1) (n + 1) k (.bad p) → RBlk T len d n (.bad p)
  | cls {d n n1 k : Nat} {b : Bdy} : d ≠ 6 → tkAt T n = "{" → RBody T len (d + 1) (n + 1) k (.good b n1) → tkAt T n1 ≠ "}" → RBlk T len d n (.bad (psAt T len n1))
  | ok {d n n1 k : Nat} {b : Bdy} : d ≠ 6 → tkAt T n = "{" → RBody T len (d + 1) (n + 1) k (.good b n1) → tkAt T n1 = "}" → RBlk T len d n (.good b (n1 + 1))
inductive RAlt (T : List (Int × Str)) (len : Int) : Nat → Nat → Out Bds → Prop where
  | first {d n : Nat} {p : Int} : RBlk T len d n (.bad p) → RAlt T len d n (.bad p)
  | noor {d n n1 : Nat} {b : Bdy} : RBlk T len d n (.good b n1) → tkAt T n1 ≠ "or" → RAlt T len d n (.bad (psAt T len n1))
  | more {d n n1 k : Nat} {b : Bdy} {p : Int} : RBlk T len d n (.good b n1) → tkAt T n1 = "or" → RMore T len d n1 (k + 1) (.bad p) → RAlt T len d n (.bad p)
  | ok {d n n1 n2 k : Nat} {b : Bdy} {bs : Bds} : RBlk T len d n (.good b n1) → tkAt T n1 = "or" → RMore T len d n1 (k + 1) (.good bs n2) → RAlt T len d n (.good (.cons b bs) n2)
inductive RMore (T : List (Int × Str)) (len : Int) : Nat → Nat → Nat → Out Bds → Prop where
  | stop {d n : Nat} : tkAt T n ≠ "or" → RMore T len d n 0 (.good .nil n)
  | fail {d n : Nat} {p : Int} : tkAt T n = "or" → RBlk T len d (n + 1) (.bad p) → RMore T len d n 1 (.bad p)
  | next {d n n1 n2 k : Nat} {b : Bdy} {bs : Bds} : tkAt T n = "or" → RBlk T len d (n + 1) (.good b n1) → n < n1 → RMore T len d n1 k (.good bs n2) → RMore T len d n (k + 1) (.good (.cons b bs) n2)
  | late {d n n1 k : Nat} {b : Bdy} {p : Int} : tkAt T n = "or" → RBlk T len d (n + 1) (.good b n1) → n < n1 → RMore T len d n1 k (.bad p) → RMore T len d n (k + 1) (.bad p)
end
/-- what a reading function keeps: a good end gives the datum, a bad one the error -/
def Ends2 {α : Type} (K : PySem.W.Frag) (r l : Addr) (T : List (Int × Str)) (len : Int) (H : Hp) (Q : VK) (E : XK) (f : α → PyData) : Out α → Prop
  | .good x n => ∀ v H', But r H H' → Rdr K H' r l T len n → Dp K H' v (f x) → Q v H'
  | .bad p => Bad K r H E p
def sp_rd {α : Type} (K : PySem.W.Frag) (R : List (Int × Str) → Int → Nat → Out α → Prop) (f : α → PyData) (vs : List V) (r : Addr) (more : List V) (H : Hp) (Q : VK) (E : XK) : Prop :=
  ∃ (l : Addr) (T : List (Int × Str)) (len : Int) (n : Nat) (o : Out α), vs = .ref r :: more ∧ Rdr K H r l T len n ∧ R T len n o ∧ Ends2 K r l T len H Q E f o
def sp_body (K : PySem.W.Frag) (d : Nat) : Sp := fun vs H Q E => d ≤ 6 ∧ ∃ r, sp_rd K (fun T len n o => ∃ k, RBody T len d n k o) (fun b : Bdy => .tuple b.dats) vs r [.int d] H Q E
def sp_step (K : PySem.W.Frag) (d : Nat) : Sp := fun vs H Q E => d ≤ 6 ∧ ∃ r, sp_rd K (fun T len n o => RStep T len d n o) Stp.dat vs r [.int d] H Q E
def sp_nested (K : PySem.W.Frag) (d : Nat) : Sp := fun vs H Q E => d ≤ 6 ∧ ∃ r w, sp_rd K (fun T len n o => RNest T len d w n o) Stp.dat vs r [.str w, .int d] H Q E
def sp_block (K : PySem.W.Frag) (d : Nat) : Sp := fun vs H Q E => d ≤ 6 ∧ ∃ r, sp_rd K (fun T len n o => RBlk T len d n o) (fun b : Bdy => .tuple b.dats) vs r [.int d] H Q E
def sp_either (K : PySem.W.Frag) (d : Nat) : Sp := fun vs H Q E => d ≤ 6 ∧ ∃ r, sp_rd K (fun T len n o => RAlt T len d n o) (fun bs : Bds => .tuple bs.dats) vs r [.int d] H Q E
/-- read_steps of a text: a good end, or the error at a place -/
def Reads2 (z : Str) : Out Bdy → Prop
  | .good b n => (∃ k, RBody (tokens z) z.length 0 0 k (.good b n)) ∧ tkAt (tokens z) n = ""
  | .bad p => (∃ k, RBody (tokens z) z.length 0 0 k (.bad p)) ∨ ∃ k b n, RBody (tokens z) z.length 0 0 k (.good b n) ∧ tkAt (tokens z) n ≠ "" ∧ p = psAt (tokens z) z.length n
def sp_read_steps (K : PySem.W.Frag) : Sp := fun vs H Q E => ∃ (z : Str) (o : Out Bdy), vs = [.str z] ∧ z.length ≤ 100000 ∧ Reads2 z o ∧
  (match o with
    | .good b _ => ∀ v H', Ex H H' → Dp K H' v (.tuple b.dats) → Q v H'
    | .bad p => ∀ H1 d, Ex H H1 → H1 d = none → E (.ref (He.ga K "BadText")) (some d) (upd H1 d (.xd [("at", .int p)])))
/-! ### writing -/
def sp_write_steps (K : PySem.W.Frag) (dp : Nat) : Sp := fun vs H Q _ => ∃ (v : V) (b : Bdy), vs = [v] ∧ Dp K H v (.tuple b.dats) ∧ b.ok ∧ (b.dep < dp ∧ dp ≤ 9) ∧ b.txt.length ≤ 30000 ∧ ∀ H', Ex H H' → Q (.str b.txt) H'
def sp_write_block (K : PySem.W.Frag) (dp : Nat) : Sp := fun vs H Q _ => ∃ (v : V) (b : Bdy), vs = [v] ∧ Dp K H v (.tuple b.dats) ∧ b.ok ∧ (b.dep < dp ∧ dp ≤ 9) ∧ b.blk.length ≤ 30000 ∧ ∀ H', Ex H H' → Q (.str b.blk) H'
def sp_write_step (K : PySem.W.Frag) (dp : Nat) : Sp := fun vs H Q _ => ∃ (v : V) (s : Stp), vs = [v] ∧ Dp K H v s.dat ∧ s.ok ∧ (s.dep ≤ dp ∧ dp ≤ 9) ∧ s.txt.length ≤ 30000 ∧ ∀ H', Ex H H' → Q (.str s.txt) H'
/-! ### the law's own defs -/
def spNewStrs (K : PySem.W.Frag) (vs : List V) (v : V) (H : Hp) (Q : VK) (ys : List Str) : Prop := vs = [v] ∧ ∀ H' p, Ex H H' → H p = none → H' p = some (.lst (ys.map V.str)) → Q (.ref p) H'
def sp_signs (K : PySem.W.Frag) (dp : Nat) : Sp := fun vs H Q _ => ∃ (v : V) (b : Bdy), Dp K H v (.tuple b.dats) ∧ b.ok ∧ b.dep < dp ∧ b.toks.length ≤ 10000 ∧ spNewStrs K vs v H Q b.toks
def sp_curly (K : PySem.W.Frag) (dp : Nat) : Sp := fun vs H Q _ => ∃ (v : V) (b : Bdy), Dp K H v (.tuple b.dats) ∧ b.ok ∧ b.dep < dp ∧ b.toks.length ≤ 10000 ∧ spNewStrs K vs v H Q (curl b.toks)
/-- a list of n fitting texts, drawn -/
def spDrawnList (f : Str → Bool) : Sp := fun vs H Q _ => ∃ (b : Addr) (m : Int), vs = [.ref b, .int m] ∧ Bag H b ∧ 0 < m ∧ m ≤ 12 ∧ ∀ H' p (ys : List Str), Le b H H' → H p = none → H' p = some (.lst (ys.map V.str)) → ys ≠ [] → ys.length ≤ 12 → (∀ y ∈ ys, f y = true) → Q (.ref p) H'
abbrev sp_words : Sp := spDrawnList fitsW
abbrev sp_labels : Sp := spDrawnList fitsC
/-- the words of a law: a tuple of four lists, all of them other objects than b -/
def Words (K : PySem.W.Frag) (b : Addr) (H : Hp) (w : Addr) : Prop := ∃ (l1 l2 l3 : Addr) (n1 n2 n3 : List Str), H w = some (.tup [.ref l1, .ref l2, .ref l3, .ref l3]) ∧ l1 ≠ b ∧ l2 ≠ b ∧ l3 ≠ b ∧
  H l1 = some (.lst (n1.map V.str)) ∧ H l2 = some (.lst (n2.map V.str)) ∧ H l3 = some (.lst (n3.map V.str)) ∧ (n1 ≠ [] ∧ n2 ≠ [] ∧ n3 ≠ []) ∧ (n1.length ≤ 12 ∧ n2.length ≤ 12 ∧ n3.length ≤ 12) ∧
  (∀ y ∈ n1, fitsW y = true) ∧ (∀ y ∈ n2, fitsW y = true) ∧ ∀ y ∈ n3, fitsC y = true
def sp_start (K : PySem.W.Frag) : Sp := fun vs H Q _ => ∃ b : Addr, vs = [.ref b] ∧ Bag H b ∧ ∀ H' w, Le b H H' → Words K b H' w → Q (.ref w) H'
/-- all but the bag and the room stays -/
structure Le2 (b r : Addr) (H H' : Hp) : Prop where
  keep : ∀ a o, a ≠ b → a ≠ r → H a = some o → H' a = some o
  bag : Bag H b → Bag H' b
def Room1 (H : Hp) (r : Addr) (m : Int) : Prop := H r = some (.lst [.int m]) ∧ 0 ≤ m ∧ m ≤ 1000
/-- what is told of what is drawn: rm the room ahead, rm' behind; each step takes one of the room -/
def sp_ldraw {α : Type} (K : PySem.W.Frag) (dp : Nat) (ok : α → Int → Prop) (f : α → PyData) (vs : List V) (H : Hp) (Q : VK) : Prop := ∃ (b w r : Addr) (rm : Int), vs = [.ref b, .ref w, .ref r, .int dp] ∧ Bag H b ∧ r ≠ b ∧ Room1 H r rm ∧ Words K b H w ∧ Words K r H w ∧
  ∀ v H' (x : α) (rm' : Int), Le2 b r H H' → Room1 H' r rm' → Dp K H' v (f x) → ok x (rm - rm') → Q v H'
def sp_lstep (K : PySem.W.Frag) (dp : Nat) : Sp := fun vs H Q _ => ∃ d : Nat, d ≤ dp ∧ sp_ldraw K d (fun (s : Stp) n => s.ok ∧ s.dep ≤ d ∧ (s.toks.length : Int) ≤ 12 + 12 * n ∧ 0 ≤ n) Stp.dat vs H Q
def sp_lbody (K : PySem.W.Frag) (dp : Nat) : Sp := fun vs H Q _ => ∃ d : Nat, d < dp ∧ sp_ldraw K d (fun (b : Bdy) n => b.ok ∧ b.dep ≤ d ∧ (b.toks.length : Int) ≤ 12 * n ∧ 0 ≤ n) (fun b => .tuple b.dats) vs H Q
def sp_tower (K : PySem.W.Frag) : Sp := fun vs H Q _ => ∃ (b l : Addr) (ns : List Str) (v : V) (bd : Bdy) (m : Int), vs = [.ref b, .ref l, v, .int m] ∧ Bag H b ∧ l ≠ b ∧ H l = some (.lst (ns.map V.str)) ∧ ns ≠ [] ∧ ns.length ≤ 12 ∧ (∀ y ∈ ns, fitsW y = true) ∧ Dp K H v (.tuple bd.dats) ∧ bd.ok ∧ 0 ≤ m ∧ m ≤ 7 ∧
  ∀ u H' (c : Bdy), Le b H H' → Dp K H' u (.tuple c.dats) → c.ok → (c.dep : Int) = bd.dep + m → (c.toks.length : Int) ≤ bd.toks.length + 40 * m → Q u H'
/-- a token as it may stand in a text: some letters, or one sign that is neither letter nor blank -/
def gTok (w : Str) : Prop := w.length ≤ 9 ∧ ((w.cps.toList ≠ [] ∧ ∀ c ∈ w.cps.toList, isLet c = true) ∨ ∃ c, w.cps.toList = [c] ∧ c < 128 ∧ isLet c = false ∧ isBlank c = false)
/-- a text with these tokens, and their places -/
def sp_spread (K : PySem.W.Frag) : Sp := fun vs H Q _ => ∃ (b l : Addr) (ts : List Str), vs = [.ref b, .ref l] ∧ Bag H b ∧ l ≠ b ∧ H l = some (.lst (ts.map V.str)) ∧ ts.length ≤ 2000 ∧ (∀ t ∈ ts, gTok t) ∧
  ∀ H' t p (z : Str) (ps : List Int), Le b H H' → H' t = some (.tup [.str z, .ref p]) → H' p = some (.lst (ps.map V.int)) → ps.length = ts.length → tokens z = ps.zip ts → z.length ≤ 13 * ts.length + 1 → Q (.ref t) H'
def sp_law (K : PySem.W.Frag) : Sp := fun vs H Q _ => ∃ (a : Addr) (ns : List Int), vs = [.ref a] ∧ SqL K H a (ns.map V.int) ∧ ns.length ≤ 63 ∧ ∀ H', Q (.bl true) H'
end Ef

/-! readings, printed by gen2.py -/
namespace Ef
open PySem PySem.Spec PyProof.Rows L2
/-- 0 token, 1 sign -/
def t_fits_word (K : PySem.W.Frag) : TS := tSeq (tIfS (tOr (tNot (tTest (tChain rLeI rLeI (tC (.int 1)) (tCB rLenStr (tCons (tVar 0) tNil)) (tC (.int 8))))) (tTest (tOp (rIn K false) (tVar 0) (tC (.ref (He.ga K "RESERVED")))))) (tRet (tC (.bl false))) tNext) (tRet (tCB (rAll K) (tCons (tLc (iStr (tVar 0)) (gName 1) tYes (tOp rInSign (tVar 1) (tC (.str "abcdefghijklmnopqrstuvwxyz"))) [1]) tNil)))
/-- 0 token, 1 sign -/
def t_fits_class (K : PySem.W.Frag) : TS := tSeq (tIfS (tOr (tNot (tTest (tChain rLeI rLeI (tC (.int 1)) (tCB rLenStr (tCons (tVar 0) tNil)) (tC (.int 8))))) (tTest (tOp rNotInSign (tOp rIxS (tVar 0) (tC (.int 0))) (tC (.str "ABCDEFGHIJKLMNOPQRSTUVWXYZ"))))) (tRet (tC (.bl false))) tNext) (tRet (tCB (rAll K) (tCons (tLc (iStr (tSl rSlS (tVar 0) (tPart (tC (.int 1))) tNoPart)) (gName 1) tYes (tOp rInSign (tVar 1) (tC (.str "abcdefghijklmnopqrstuvwxyz"))) [1]) tNil)))
/-- 0 text, 1 rows, 2 begin, 3 finish -/
def t_tokens_of (K : PySem.W.Frag) : TS := tSeq (tPar 1 2 (tCons (tLst tNil) (tCons (tC (.int 0)) tNil))) (tSeq (tWhile (tTest (tOp rLtI (tVar 2) (tCB rLenStr (tCons (tVar 0) tNil)))) (tSeq (tAsg (tOp rAddI (tVar 2) (tC (.int 1))) (gName 3)) (tSeq (tIfS (tTest (tOp rInSign (tOp rIxS (tVar 0) (tVar 2)) (tC (.str "abcdefghijklmnopqrstuvwxyzABCDEFGHIJKLMNOPQRSTUVWXYZ")))) (tWhile (tAnd (tTest (tOp rLtI (tVar 3) (tCB rLenStr (tCons (tVar 0) tNil)))) (tTest (tOp rInSign (tOp rIxS (tVar 0) (tVar 3)) (tC (.str "abcdefghijklmnopqrstuvwxyzABCDEFGHIJKLMNOPQRSTUVWXYZ"))))) (tAug 3 (tC (.int 1)) (ipI fun i j => i + j))) tNext) (tSeq (tIfS (tTest (tOp rNotInSign (tOp rIxS (tVar 0) (tVar 2)) (tC (.str " \n")))) (tDrop (tBM K "list" rAppend (tVar 1) (tCons (tTup (tCons (tVar 2) (tCons (tSl rSlS (tVar 0) (tPart (tVar 2)) (tPart (tVar 3))) tNil))) tNil))) tNext) (tAsg (tVar 3) (gName 2)))))) (tRet (tVar 1)))
/-- 0 self, 1 text -/
def t_Reader___init__ (K : PySem.W.Frag) : TS := tSeq (sFld K (tVar 0) (tCall sp_tokens_of [] E0 (tCons (tVar 1) tNil)) "tokens") (tSeq (sFld K (tVar 0) (tCB rLenStr (tCons (tVar 1) tNil)) "length") (sFld K (tVar 0) (tC (.int 0)) "passed"))
/-- 0 self -/
def t_Reader_peek (K : PySem.W.Frag) : TS := tRet (tIf (tTest (tOp rLtI (tFld K (tVar 0) "passed") (tCB (rLenSq K) (tCons (tFld K (tVar 0) "tokens") tNil)))) (tOp (rIxT K) (tOp (rIxL K) (tFld K (tVar 0) "tokens") (tFld K (tVar 0) "passed")) (tC (.int 1))) (tC (.str "")))
/-- 0 self -/
def t_Reader_position (K : PySem.W.Frag) : TS := tRet (tIf (tTest (tOp rLtI (tFld K (tVar 0) "passed") (tCB (rLenSq K) (tCons (tFld K (tVar 0) "tokens") tNil)))) (tOp (rIxT K) (tOp (rIxL K) (tFld K (tVar 0) "tokens") (tFld K (tVar 0) "passed")) (tC (.int 0))) (tFld K (tVar 0) "length"))
/-- 0 self, 1 wanted -/
def t_Reader_skip (K : PySem.W.Frag) (E : XK) : TS := tSeq (tIfS (tTest (tOp rNe (tMeth (He.ga K "Reader") "peek" (sp_peek K) [] E0 (tVar 0) tNil) (tVar 1))) (tRaise (He.ga K "BadText") ["at"] E (tCons (tMeth (He.ga K "Reader") "position" (sp_position K) [] E0 (tVar 0) tNil) tNil)) tNext) (sFldAug K (tVar 0) (tC (.int 1)) rAdd "passed")
/-- 0 self, 1 token -/
def t_Reader_read_word (K : PySem.W.Frag) (E : XK) : TS := tSeq (tAsg (tMeth (He.ga K "Reader") "peek" (sp_peek K) [] E0 (tVar 0) tNil) (gName 1)) (tSeq (tIfS (tNot (tB (tCall sp_fits_word [] E0 (tCons (tVar 1) tNil)))) (tRaise (He.ga K "BadText") ["at"] E (tCons (tMeth (He.ga K "Reader") "position" (sp_position K) [] E0 (tVar 0) tNil) tNil)) tNext) (tSeq (sFldAug K (tVar 0) (tC (.int 1)) rAdd "passed") (tRet (tVar 1))))
/-- 0 self, 1 token -/
def t_Reader_read_class_name (K : PySem.W.Frag) (E : XK) : TS := tSeq (tAsg (tMeth (He.ga K "Reader") "peek" (sp_peek K) [] E0 (tVar 0) tNil) (gName 1)) (tSeq (tIfS (tNot (tB (tCall sp_fits_class [] E0 (tCons (tVar 1) tNil)))) (tRaise (He.ga K "BadText") ["at"] E (tCons (tMeth (He.ga K "Reader") "position" (sp_position K) [] E0 (tVar 0) tNil) tNil)) tNext) (tSeq (sFldAug K (tVar 0) (tC (.int 1)) rAdd "passed") (tRet (tVar 1))))
/-- 0 reader, 1 depth, 2 body -/
def t_read_block (K : PySem.W.Frag) (E : XK) (dp : Nat) : TS := tSeq (tIfS (tTest (tOp rEq (tVar 1) (tC (.int 6)))) (tRaise (He.ga K "BadText") ["at"] E (tCons (tMeth (He.ga K "Reader") "position" (sp_position K) [] E0 (tVar 0) tNil) tNil)) tNext) (tSeq (tDrop (tMeth (He.ga K "Reader") "skip" (sp_skip K) [] E (tVar 0) (tCons (tC (.str "{")) tNil))) (tSeq (tAsg (tCall (sp_body K (dp + 1)) [] E (tCons (tVar 0) (tCons (tOp rAddI (tVar 1) (tC (.int 1))) tNil))) (gName 2)) (tSeq (tDrop (tMeth (He.ga K "Reader") "skip" (sp_skip K) [] E (tVar 0) (tCons (tC (.str "}")) tNil))) (tRet (tVar 2)))))
/-- 0 reader, 1 depth, 2 blocks -/
def t_read_either (K : PySem.W.Frag) (E : XK) (dp : Nat) : TS := tSeq (tAsg (tLst (tCons (tCall (sp_block K dp) [] E (tCons (tVar 0) (tCons (tVar 1) tNil))) tNil)) (gName 2)) (tSeq (tDrop (tMeth (He.ga K "Reader") "skip" (sp_skip K) [] E (tVar 0) (tCons (tC (.str "or")) tNil))) (tSeq (tDrop (tBM K "list" rAppend (tVar 2) (tCons (tCall (sp_block K dp) [] E (tCons (tVar 0) (tCons (tVar 1) tNil))) tNil))) (tSeq (tWhile (tTest (tOp rEq (tMeth (He.ga K "Reader") "peek" (sp_peek K) [] E0 (tVar 0) tNil) (tC (.str "or")))) (tSeq (tDrop (tMeth (He.ga K "Reader") "skip" (sp_skip K) [] E (tVar 0) (tCons (tC (.str "or")) tNil))) (tDrop (tBM K "list" rAppend (tVar 2) (tCons (tCall (sp_block K dp) [] E (tCons (tVar 0) (tCons (tVar 1) tNil))) tNil))))) (tRet (tCB (rTupOf K) (tCons (tVar 2) tNil))))))
/-- 0 reader, 1 word, 2 depth, 3 first, 4 name -/
def t_read_nested (K : PySem.W.Frag) (E : XK) (dp : Nat) : TS := tSeq (tIfS (tTest (tOp rEq (tVar 1) (tC (.str "loop")))) (tRet (tTup (tCons (tVar 1) (tCons (tCall (sp_block K dp) [] E (tCons (tVar 0) (tCons (tVar 2) tNil))) tNil)))) tNext) (tSeq (tIfS (tTest (tOp rEq (tVar 1) (tC (.str "either")))) (tRet (tTup (tCons (tVar 1) (tCons (tCall (sp_either K dp) [] E (tCons (tVar 0) (tCons (tVar 2) tNil))) tNil)))) tNext) (tSeq (tIfS (tTest (tOp rEq (tVar 1) (tC (.str "try")))) (tSeq (tAsg (tCall (sp_block K dp) [] E (tCons (tVar 0) (tCons (tVar 2) tNil))) (gName 3)) (tSeq (tDrop (tMeth (He.ga K "Reader") "skip" (sp_skip K) [] E (tVar 0) (tCons (tC (.str "catch")) tNil))) (tRet (tTup (tCons (tVar 1) (tCons (tVar 3) (tCons (tCall (sp_block K dp) [] E (tCons (tVar 0) (tCons (tVar 2) tNil))) tNil))))))) tNext) (tSeq (tAsg (tMeth (He.ga K "Reader") "read_word" (sp_read_one K fitsW) [] E (tVar 0) tNil) (gName 4)) (tSeq (tAsg (tCall (sp_block K dp) [] E (tCons (tVar 0) (tCons (tVar 2) tNil))) (gName 3)) (tSeq (tDrop (tMeth (He.ga K "Reader") "skip" (sp_skip K) [] E (tVar 0) (tCons (tC (.str "else")) tNil))) (tRet (tTup (tCons (tVar 1) (tCons (tVar 4) (tCons (tVar 3) (tCons (tCall (sp_block K dp) [] E (tCons (tVar 0) (tCons (tVar 2) tNil))) tNil)))))))))))
/-- 0 reader, 1 depth, 2 word, 3 step -/
def t_read_step (K : PySem.W.Frag) (E : XK) (dp : Nat) : TS := tSeq (tAsg (tMeth (He.ga K "Reader") "peek" (sp_peek K) [] E0 (tVar 0) tNil) (gName 2)) (tSeq (tDrop (tMeth (He.ga K "Reader") "skip" (sp_skip K) [] E (tVar 0) (tCons (tVar 2) tNil))) (tSeq (tIfS (tTest (tOp (rIn K false) (tVar 2) (tC (.ref (He.ga K "NESTED_STEPS"))))) (tRet (tCall (sp_nested K dp) [] E (tCons (tVar 0) (tCons (tVar 2) (tCons (tVar 1) tNil))))) tNext) (tSeq (tAsg (tTup (tCons (tVar 2) tNil)) (gName 3)) (tSeq (tIfS (tTest (tOp (rIn K false) (tVar 2) (tC (.ref (He.ga K "WORD_STEPS"))))) (tAsg (tTup (tCons (tVar 2) (tCons (tMeth (He.ga K "Reader") "read_word" (sp_read_one K fitsW) [] E (tVar 0) tNil) tNil))) (gName 3)) (tIfS (tTest (tOp (rIn K false) (tVar 2) (tC (.ref (He.ga K "CLASS_STEPS"))))) (tAsg (tTup (tCons (tVar 2) (tCons (tMeth (He.ga K "Reader") "read_class_name" (sp_read_one K fitsC) [] E (tVar 0) tNil) tNil))) (gName 3)) tNext)) (tSeq (tDrop (tMeth (He.ga K "Reader") "skip" (sp_skip K) [] E (tVar 0) (tCons (tC (.str ";")) tNil))) (tRet (tVar 3)))))))
/-- 0 reader, 1 depth, 2 steps -/
def t_read_body (K : PySem.W.Frag) (E : XK) (dp : Nat) : TS := tSeq (tAsg (tLst tNil) (gName 2)) (tSeq (tWhile (tTest (tOp (rIn K false) (tMeth (He.ga K "Reader") "peek" (sp_peek K) [] E0 (tVar 0) tNil) (tC (.ref (He.ga K "STARTS"))))) (tDrop (tBM K "list" rAppend (tVar 2) (tCons (tCall (sp_step K dp) [] E (tCons (tVar 0) (tCons (tVar 1) tNil))) tNil)))) (tRet (tCB (rTupOf K) (tCons (tVar 2) tNil))))
/-- 0 text, 1 reader, 2 body -/
def t_read_steps (K : PySem.W.Frag) (E : XK) : TS := tSeq (tIfS (tNot (tB (tCB (rIsi K) (tCons (tVar 0) (tCons (tC (.ty "str")) tNil))))) (tRaise (He.ga K "BadText") ["at"] E (tCons (tUn rNegI (tC (.int 1))) tNil)) tNext) (tSeq (tAsg (tMake (He.ga K "Reader") (sp_Reader_init K) [] E0 (tCons (tVar 0) tNil)) (gName 1)) (tSeq (tAsg (tCall (sp_body K 0) [] E (tCons (tVar 1) (tCons (tC (.int 0)) tNil))) (gName 2)) (tSeq (tIfS (tTest (tOp rNe (tMeth (He.ga K "Reader") "peek" (sp_peek K) [] E0 (tVar 1) tNil) (tC (.str "")))) (tRaise (He.ga K "BadText") ["at"] E (tCons (tMeth (He.ga K "Reader") "position" (sp_position K) [] E0 (tVar 1) tNil) tNil)) tNext) (tRet (tVar 2)))))
/-- 0 body -/
def t_write_block (K : PySem.W.Frag) (dp : Nat) : TS := tRet (tIf (tTest (tOp rEq (tCB (rLenSq K) (tCons (tVar 0) tNil)) (tC (.int 0)))) (tC (.str "{ }")) (tOp rAddSt (tOp rAddSt (tC (.str "{ ")) (tCall (sp_write_steps K dp) [] E0 (tCons (tVar 0) tNil))) (tC (.str " }"))))
/-- 0 step, 1 word, 2 block -/
def t_write_step (K : PySem.W.Frag) (dp : Nat) : TS := tSeq (tAsg (tOp (rIxT K) (tVar 0) (tC (.int 0))) (gName 1)) (tSeq (tIfS (tTest (tOp rEq (tVar 1) (tC (.str "loop")))) (tRet (tOp rAddSt (tC (.str "loop ")) (tCall (sp_write_block K dp) [] E0 (tCons (tOp (rIxT K) (tVar 0) (tC (.int 1))) tNil)))) tNext) (tSeq (tIfS (tTest (tOp rEq (tVar 1) (tC (.str "either")))) (tRet (tOp rAddSt (tC (.str "either ")) (tM1 (rJoinS K) (tC (.str " or ")) (tLc (iTup K (tOp (rIxT K) (tVar 0) (tC (.int 1)))) (gName 2) tYes (tCall (sp_write_block K dp) [] E0 (tCons (tVar 2) tNil)) [2])))) tNext) (tSeq (tIfS (tTest (tOp rEq (tVar 1) (tC (.str "try")))) (tRet (tOp rAddSt (tOp rAddSt (tOp rAddSt (tC (.str "try ")) (tCall (sp_write_block K dp) [] E0 (tCons (tOp (rIxT K) (tVar 0) (tC (.int 1))) tNil))) (tC (.str " catch "))) (tCall (sp_write_block K dp) [] E0 (tCons (tOp (rIxT K) (tVar 0) (tC (.int 2))) tNil)))) tNext) (tSeq (tIfS (tTest (tOp rEq (tVar 1) (tC (.str "if")))) (tRet (tOp rAddSt (tOp rAddSt (tOp rAddSt (tOp rAddSt (tOp rAddSt (tC (.str "if ")) (tOp (rIxT K) (tVar 0) (tC (.int 1)))) (tC (.str " "))) (tCall (sp_write_block K dp) [] E0 (tCons (tOp (rIxT K) (tVar 0) (tC (.int 2))) tNil))) (tC (.str " else "))) (tCall (sp_write_block K dp) [] E0 (tCons (tOp (rIxT K) (tVar 0) (tC (.int 3))) tNil)))) tNext) (tRet (tOp rAddSt (tM1 (rJoinS K) (tC (.str " ")) (tVar 0)) (tC (.str ";"))))))))
/-- 0 body, 1 step -/
def t_write_steps (K : PySem.W.Frag) (dp : Nat) : TS := tRet (tM1 (rJoinS K) (tC (.str " ")) (tLc (iTup K (tVar 0)) (gName 1) tYes (tCall (sp_write_step K dp) [] E0 (tCons (tVar 1) tNil)) [1]))
/-- 0 _law_script, 1 _law_at, 2 _law_cell, 3 _law_seed, 4 _law_turn, 5 _law_each -/
def t__law_bag (K : PySem.W.Frag) : TS := tSeq (tAsg (tIf (tTest (tOp rLtI (tVar 1) (tCB (rLenSq K) (tCons (tVar 0) tNil)))) (tOp (rIxL K) (tVar 0) (tVar 1)) (tC (.int 0))) (gName 2)) (tSeq (tAsg (tOp rAddI (tOp rMulI (tC (.int 6151)) (tVar 1)) (tC (.int 389))) (gName 3)) (tSeq (tFor (iEnum K (tCons (tSl (rSlL K) (tVar 0) tNoPart (tPart (tC (.int 63)))) tNil)) (gTup K 2 (gCons (gName 4) (gCons (gName 5) gNil))) (tAsg (tOp rModI (tCB rIntOf (tCons (tOp rAddI (tOp rAddI (tOp rMulI (tVar 3) (tC (.int 39373))) (tOp rModI (tCB rIntOf (tCons (tVar 5) tNil)) (tC (.int 2147483579)))) (tOp rMulI (tC (.int 57)) (tVar 4))) tNil)) (tC (.int 2147483423))) (gName 3))) (tRet (tLst (tCons (tIf (tTest (tOp rGeI (tCB rAbsI (tCons (tVar 2) tNil)) (tOp rPowI (tC (.int 10)) (tC (.int 18))))) (tCB rAbsI (tCons (tVar 2) tNil)) (tC (.int 0))) (tCons (tVar 3) tNil))))))
/-- 0 _law_bag_here, 1 _law_many, 2 _law_digit -/
def t__law_draw (K : PySem.W.Frag) : TS := tSeq (tIfS (tTest (tOp rGtI (tOp (rIxL K) (tVar 0) (tC (.int 0))) (tC (.int 0)))) (tSeq (tAsg (tOp rModI (tCB rIntOf (tCons (tOp (rIxL K) (tVar 0) (tC (.int 0))) tNil)) (tVar 1)) (gName 2)) (tSeq (tAsg (tOp rDivW (tOp (rIxL K) (tVar 0) (tC (.int 0))) (tVar 1)) (gSub (tVar 0) (tC (.int 0)) rSetL)) (tRet (tVar 2)))) tNext) (tSeq (tAsg (tOp rModI (tCB rIntOf (tCons (tOp rAddI (tOp rMulI (tOp (rIxL K) (tVar 0) (tC (.int 1))) (tC (.int 69621))) (tC (.int 40503))) tNil)) (tC (.int 2147483647))) (gSub (tVar 0) (tC (.int 1)) rSetL)) (tRet (tOp rModI (tOp rDivI (tOp rModI (tCB rIntOf (tCons (tOp rMulI (tOp rDivI (tOp (rIxL K) (tVar 0) (tC (.int 1))) (tC (.int 13))) (tC (.int 16807))) tNil)) (tC (.int 2147483629))) (tC (.int 32))) (tVar 1))))
/-- 0 _law_bag_here, 1 _law_some -/
def t__law_one (K : PySem.W.Frag) : TS := tRet (tOp (rIxL K) (tVar 1) (tCall sp_draw [] E0 (tCons (tVar 0) (tCons (tCB (rLenSq K) (tCons (tVar 1) tNil)) tNil))))
/-- 0 _law_bag_here, 1 _law_many, 2 _law_left, 3 _law_stem, 4 _law_found, 5 _law_turn, 6 _law_is_ahead, 7 _law_sign -/
def t__law_words (K : PySem.W.Frag) : TS := tSeq (tPar3 2 3 4 (tCons (tCB rListStr (tCons (tC (.str "abcdefghijklmnopqrstuvwxyz")) tNil)) (tCons (tC (.str "")) (tCons (tLst tNil) tNil)))) (tSeq (tFor (iRng1 (tCons (tCall sp_draw [] E0 (tCons (tVar 0) (tCons (tC (.int 8)) tNil))) tNil)) (gName 5) (tAsg (tOp rAddSt (tVar 3) (tCall (sp_one K) [] E0 (tCons (tVar 0) (tCons (tLst (tCons (tC (.str "a")) (tCons (tC (.str "q")) (tCons (tC (.str "z")) (tCons (tC (.str "m")) tNil))))) tNil)))) (gName 3))) (tSeq (tAsg (tOp rEq (tCall sp_draw [] E0 (tCons (tVar 0) (tCons (tC (.int 2)) tNil))) (tC (.int 0))) (gName 6)) (tSeq (tFor (iRng1 (tCons (tVar 1) tNil)) (gName 5) (tSeq (tAsg (tBM K "list" rPopAt (tVar 2) (tCons (tCall sp_draw [] E0 (tCons (tVar 0) (tCons (tCB (rLenSq K) (tCons (tVar 2) tNil)) tNil))) tNil)) (gName 7)) (tDrop (tBM K "list" rAppend (tVar 4) (tCons (tIf (tB (tVar 6)) (tOp rAddSt (tVar 7) (tVar 3)) (tOp rAddSt (tVar 3) (tVar 7))) tNil))))) (tRet (tVar 4)))))
/-- 0 _law_bag_here, 1 _law_many, 2 _law_left, 3 _law_stem, 4 _law_found, 5 _law_turn -/
def t__law_labels (K : PySem.W.Frag) : TS := tSeq (tPar3 2 3 4 (tCons (tCB rListStr (tCons (tC (.str "ABCDEFGHIJKLMNOPQRSTUVWXYZ")) tNil)) (tCons (tC (.str "")) (tCons (tLst tNil) tNil)))) (tSeq (tFor (iRng1 (tCons (tCall sp_draw [] E0 (tCons (tVar 0) (tCons (tC (.int 8)) tNil))) tNil)) (gName 5) (tAsg (tOp rAddSt (tVar 3) (tCall (sp_one K) [] E0 (tCons (tVar 0) (tCons (tLst (tCons (tC (.str "a")) (tCons (tC (.str "e")) (tCons (tC (.str "s")) (tCons (tC (.str "t")) (tCons (tC (.str "x")) tNil)))))) tNil)))) (gName 3))) (tSeq (tFor (iRng1 (tCons (tVar 1) tNil)) (gName 5) (tDrop (tBM K "list" rAppend (tVar 4) (tCons (tOp rAddSt (tBM K "list" rPopAt (tVar 2) (tCons (tCall sp_draw [] E0 (tCons (tVar 0) (tCons (tCB (rLenSq K) (tCons (tVar 2) tNil)) tNil))) tNil)) (tVar 3)) tNil)))) (tRet (tVar 4))))
/-- 0 _law_bag_here, 1 _law_words_here, 2 _law_room, 3 _law_depth, 4 _law_kind, 5 _law_blocks, 6 _law_turn -/
def t__law_step (K : PySem.W.Frag) (dp : Nat) : TS := tSeq (tAsg (tCall sp_draw [] E0 (tCons (tVar 0) (tCons (tIf (tTest (tOp rGtI (tVar 3) (tC (.int 0)))) (tC (.int 16)) (tC (.int 12))) tNil))) (gName 4)) (tSeq (tIfS (tTest (tOp rLtI (tVar 4) (tC (.int 6)))) (tRet (tTup (tCons (tOp (rIxL K) (tLst (tCons (tC (.str "keep")) (tCons (tC (.str "set")) (tCons (tC (.str "keep")) (tCons (tC (.str "set")) (tCons (tC (.str "read")) (tCons (tC (.str "look")) tNil))))))) (tVar 4)) (tCons (tCall (sp_one K) [] E0 (tCons (tVar 0) (tCons (tOp (rIxT K) (tVar 1) (tC (.int 0))) tNil))) tNil)))) tNext) (tSeq (tIfS (tTest (tOp rLtI (tVar 4) (tC (.int 8)))) (tRet (tTup (tCons (tC (.str "call")) (tCons (tCall (sp_one K) [] E0 (tCons (tVar 0) (tCons (tOp (rIxT K) (tVar 1) (tC (.int 1))) tNil))) tNil)))) tNext) (tSeq (tIfS (tOr (tTest (tOp rLtI (tVar 4) (tC (.int 10)))) (tAnd (tTest (tOp rLtI (tVar 4) (tC (.int 12)))) (tTest (tOp (rEqD K) (tOp (rIxT K) (tVar 1) (tOp rSubI (tVar 4) (tC (.int 8)))) (tLst tNil))))) (tRet (tIf (tTest (tOp rEq (tVar 4) (tC (.int 9)))) (tTup (tCons (tC (.str "fail")) tNil)) (tTup (tCons (tC (.str "super")) tNil)))) tNext) (tSeq (tIfS (tTest (tOp rLtI (tVar 4) (tC (.int 12)))) (tRet (tTup (tCons (tIf (tTest (tOp rEq (tVar 4) (tC (.int 10)))) (tC (.str "of")) (tC (.str "make"))) (tCons (tCall (sp_one K) [] E0 (tCons (tVar 0) (tCons (tOp (rIxT K) (tVar 1) (tOp rSubI (tVar 4) (tC (.int 8)))) tNil))) tNil)))) tNext) (tSeq (tAsg (tLst tNil) (gName 5)) (tSeq (tFor (iRng1 (tCons (tOp rAddI (tC (.int 2)) (tCall sp_draw [] E0 (tCons (tVar 0) (tCons (tC (.int 2)) tNil)))) tNil)) (gName 6) (tDrop (tBM K "list" rAppend (tVar 5) (tCons (tCall (sp_lbody K dp) [] E0 (tCons (tVar 0) (tCons (tVar 1) (tCons (tVar 2) (tCons (tOp rSubI (tVar 3) (tC (.int 1))) tNil))))) tNil)))) (tSeq (tIfS (tTest (tOp rEq (tVar 4) (tC (.int 12)))) (tRet (tTup (tCons (tC (.str "if")) (tCons (tCall (sp_one K) [] E0 (tCons (tVar 0) (tCons (tOp (rIxT K) (tVar 1) (tC (.int 0))) tNil))) (tCons (tOp (rIxL K) (tVar 5) (tC (.int 0))) (tCons (tOp (rIxL K) (tVar 5) (tC (.int 1))) tNil)))))) tNext) (tSeq (tIfS (tTest (tOp rEq (tVar 4) (tC (.int 13)))) (tRet (tTup (tCons (tC (.str "try")) (tCons (tOp (rIxL K) (tVar 5) (tC (.int 0))) (tCons (tOp (rIxL K) (tVar 5) (tC (.int 1))) tNil))))) tNext) (tRet (tIf (tTest (tOp rEq (tVar 4) (tC (.int 14)))) (tTup (tCons (tC (.str "loop")) (tCons (tOp (rIxL K) (tVar 5) (tC (.int 0))) tNil))) (tTup (tCons (tC (.str "either")) (tCons (tCB (rTupOf K) (tCons (tVar 5) tNil)) tNil)))))))))))))
/-- 0 _law_bag_here, 1 _law_words_here, 2 _law_room, 3 _law_depth, 4 _law_steps, 5 _law_turn -/
def t__law_body (K : PySem.W.Frag) (dp : Nat) : TS := tSeq (tAsg (tLst tNil) (gName 4)) (tSeq (tFor (iRng1 (tCons (tCall sp_draw [] E0 (tCons (tVar 0) (tCons (tC (.int 4)) tNil))) tNil)) (gName 5) (tIfS (tTest (tOp rGtI (tOp (rIxL K) (tVar 2) (tC (.int 0))) (tC (.int 0)))) (tSeq (tAsg (tOp rSubI (tOp (rIxL K) (tVar 2) (tC (.int 0))) (tC (.int 1))) (gSub (tVar 2) (tC (.int 0)) rSetL)) (tDrop (tBM K "list" rAppend (tVar 4) (tCons (tCall (sp_lstep K dp) [] E0 (tCons (tVar 0) (tCons (tVar 1) (tCons (tVar 2) (tCons (tVar 3) tNil))))) tNil)))) tNext)) (tRet (tCB (rTupOf K) (tCons (tVar 4) tNil))))
/-- 0 _law_bag_here, 1 _law_names, 2 _law_methods, 3 _law_labels_here -/
def t__law_start (K : PySem.W.Frag) : TS := tSeq (tPar 1 2 (tCons (tCall sp_words [] E0 (tCons (tVar 0) (tCons (tOp rAddI (tC (.int 1)) (tCall sp_draw [] E0 (tCons (tVar 0) (tCons (tC (.int 10)) tNil)))) tNil))) (tCons (tCall sp_words [] E0 (tCons (tVar 0) (tCons (tOp rAddI (tC (.int 1)) (tCall sp_draw [] E0 (tCons (tVar 0) (tCons (tC (.int 10)) tNil)))) tNil))) tNil))) (tSeq (tAsg (tCall sp_labels [] E0 (tCons (tVar 0) (tCons (tOp rAddI (tC (.int 2)) (tCall sp_draw [] E0 (tCons (tVar 0) (tCons (tC (.int 9)) tNil)))) tNil))) (gName 3)) (tRet (tTup (tCons (tVar 1) (tCons (tVar 2) (tCons (tVar 3) (tCons (tVar 3) tNil)))))))
/-- 0 _law_bag_here, 1 _law_names, 2 _law_body_here, 3 _law_many, 4 _law_turn, 5 _law_kind, 6 _law_pair, 7 _law_step_here, 8 _law_blocks -/
def t__law_tower (K : PySem.W.Frag) : TS := tSeq (tFor (iRng1 (tCons (tVar 3) tNil)) (gName 4) (tSeq (tPar 5 6 (tCons (tCall sp_draw [] E0 (tCons (tVar 0) (tCons (tC (.int 5)) tNil))) (tCons (tLst (tCons (tVar 2) (tCons (tTup tNil) tNil))) tNil))) (tSeq (tIfS (tTest (tOp rEq (tCall sp_draw [] E0 (tCons (tVar 0) (tCons (tC (.int 2)) tNil))) (tC (.int 0)))) (tAsg (tLst (tCons (tTup tNil) (tCons (tVar 2) tNil))) (gName 6)) tNext) (tSeq (tIfS (tTest (tOp rEq (tVar 5) (tC (.int 0)))) (tAsg (tTup (tCons (tC (.str "loop")) (tCons (tVar 2) tNil))) (gName 7)) (tIfS (tTest (tOp rEq (tVar 5) (tC (.int 1)))) (tAsg (tTup (tCons (tC (.str "try")) (tCons (tOp (rIxL K) (tVar 6) (tC (.int 0))) (tCons (tOp (rIxL K) (tVar 6) (tC (.int 1))) tNil)))) (gName 7)) (tIfS (tTest (tOp rEq (tVar 5) (tC (.int 2)))) (tAsg (tTup (tCons (tC (.str "if")) (tCons (tCall (sp_one K) [] E0 (tCons (tVar 0) (tCons (tVar 1) tNil))) (tCons (tOp (rIxL K) (tVar 6) (tC (.int 0))) (tCons (tOp (rIxL K) (tVar 6) (tC (.int 1))) tNil))))) (gName 7)) (tSeq (tAsg (tOp rRep (tLst (tCons (tTup (tCons (tTup (tCons (tC (.str "fail")) tNil)) tNil)) tNil)) (tOp rAddI (tC (.int 1)) (tCall sp_draw [] E0 (tCons (tVar 0) (tCons (tC (.int 3)) tNil))))) (gName 8)) (tSeq (tDrop (tBM K "list" rInsL (tVar 8) (tCons (tCall sp_draw [] E0 (tCons (tVar 0) (tCons (tOp rAddI (tCB (rLenSq K) (tCons (tVar 8) tNil)) (tC (.int 1))) tNil))) (tCons (tVar 2) tNil)))) (tAsg (tTup (tCons (tC (.str "either")) (tCons (tCB (rTupOf K) (tCons (tVar 8) tNil)) tNil))) (gName 7))))))) (tAsg (tOp (rCatA K) (tTup (tCons (tVar 7) tNil)) (tOp (rRepTup K) (tTup (tCons (tTup (tCons (tC (.str "super")) tNil)) tNil)) (tCall sp_draw [] E0 (tCons (tVar 0) (tCons (tC (.int 2)) tNil))))) (gName 2)))))) (tRet (tVar 2))
/-- 0 _law_body_here -/
def t__law_block (K : PySem.W.Frag) (dp : Nat) : TS := tRet (tIf (tTest (tOp (rEqD K) (tVar 0) (tTup tNil))) (tC (.str "{ }")) (tOp rAddSt (tOp rAddSt (tC (.str "{ ")) (tCall (sp_write_steps K dp) [] E0 (tCons (tVar 0) tNil))) (tC (.str " }"))))
/-- 0 _law_body_here, 1 _law_found, 2 _law_step_here, 3 _law_both, 4 _law_block_here -/
def t__law_written (K : PySem.W.Frag) (dp : Nat) : TS := tSeq (tAsg (tLst tNil) (gName 1)) (tSeq (tFor (iTup K (tVar 0)) (gName 2) (tIfS (tTest (tOp rEq (tOp (rIxT K) (tVar 2) (tC (.int 0))) (tC (.str "loop")))) (tDrop (tBM K "list" rAppend (tVar 1) (tCons (tOp rAddSt (tC (.str "loop ")) (tCall (sp_write_block K dp) [] E0 (tCons (tOp (rIxT K) (tVar 2) (tC (.int 1))) tNil))) tNil))) (tIfS (tTest (tOp rEq (tOp (rIxT K) (tVar 2) (tC (.int 0))) (tC (.str "if")))) (tSeq (tAsg (tLst (tCons (tCall (sp_write_block K dp) [] E0 (tCons (tOp (rIxT K) (tVar 2) (tC (.int 2))) tNil)) (tCons (tCall (sp_write_block K dp) [] E0 (tCons (tOp (rIxT K) (tVar 2) (tC (.int 3))) tNil)) tNil))) (gName 3)) (tDrop (tBM K "list" rAppend (tVar 1) (tCons (tOp rAddSt (tOp rAddSt (tOp rAddSt (tC (.str "if ")) (tOp (rIxT K) (tVar 2) (tC (.int 1)))) (tC (.str " "))) (tM1 (rJoinS K) (tC (.str " else ")) (tVar 3))) tNil)))) (tIfS (tTest (tOp rEq (tOp (rIxT K) (tVar 2) (tC (.int 0))) (tC (.str "try")))) (tDrop (tBM K "list" rAppend (tVar 1) (tCons (tOp rAddSt (tC (.str "try ")) (tM1 (rJoinS K) (tC (.str " catch ")) (tLst (tCons (tCall (sp_write_block K dp) [] E0 (tCons (tOp (rIxT K) (tVar 2) (tC (.int 1))) tNil)) (tCons (tCall (sp_write_block K dp) [] E0 (tCons (tOp (rIxT K) (tVar 2) (tC (.int 2))) tNil)) tNil))))) tNil))) (tIfS (tTest (tOp rEq (tOp (rIxT K) (tVar 2) (tC (.int 0))) (tC (.str "either")))) (tDrop (tBM K "list" rAppend (tVar 1) (tCons (tOp rAddSt (tC (.str "either ")) (tM1 (rJoinS K) (tC (.str " or ")) (tLc (iTup K (tOp (rIxT K) (tVar 2) (tC (.int 1)))) (gName 4) tYes (tCall (sp_write_block K dp) [] E0 (tCons (tVar 4) tNil)) [4]))) tNil))) (tDrop (tBM K "list" rAppend (tVar 1) (tCons (tOp rAddSt (tM1 (rJoinS K) (tC (.str " ")) (tCB (rListOf K) (tCons (tVar 2) tNil))) (tC (.str ";"))) tNil)))))))) (tRet (tM1 (rJoinS K) (tC (.str " ")) (tVar 1))))
/-- 0 _law_body_here, 1 _law_found, 2 _law_step_here, 3 _law_at, 4 _law_block_here -/
def t__law_signs (K : PySem.W.Frag) (dp : Nat) : TS := tSeq (tAsg (tLst tNil) (gName 1)) (tSeq (tFor (iTup K (tVar 0)) (gName 2) (tIfS (tTest (tOp rEq (tOp (rIxT K) (tVar 2) (tC (.int 0))) (tC (.str "loop")))) (tDrop (tBM K "list" rExtend (tVar 1) (tCons (tOp rCat (tLst (tCons (tC (.str "loop")) tNil)) (tCall (sp_curly K dp) [] E0 (tCons (tOp (rIxT K) (tVar 2) (tC (.int 1))) tNil))) tNil))) (tIfS (tTest (tOp rEq (tOp (rIxT K) (tVar 2) (tC (.int 0))) (tC (.str "if")))) (tDrop (tBM K "list" rExtend (tVar 1) (tCons (tOp rCat (tOp rCat (tOp rCat (tLst (tCons (tC (.str "if")) (tCons (tOp (rIxT K) (tVar 2) (tC (.int 1))) tNil))) (tCall (sp_curly K dp) [] E0 (tCons (tOp (rIxT K) (tVar 2) (tC (.int 2))) tNil))) (tLst (tCons (tC (.str "else")) tNil))) (tCall (sp_curly K dp) [] E0 (tCons (tOp (rIxT K) (tVar 2) (tC (.int 3))) tNil))) tNil))) (tIfS (tTest (tOp rEq (tOp (rIxT K) (tVar 2) (tC (.int 0))) (tC (.str "try")))) (tDrop (tBM K "list" rExtend (tVar 1) (tCons (tOp rCat (tOp rCat (tOp rCat (tLst (tCons (tC (.str "try")) tNil)) (tCall (sp_curly K dp) [] E0 (tCons (tOp (rIxT K) (tVar 2) (tC (.int 1))) tNil))) (tLst (tCons (tC (.str "catch")) tNil))) (tCall (sp_curly K dp) [] E0 (tCons (tOp (rIxT K) (tVar 2) (tC (.int 2))) tNil))) tNil))) (tIfS (tTest (tOp rEq (tOp (rIxT K) (tVar 2) (tC (.int 0))) (tC (.str "either")))) (tFor (iEnumT K (tCons (tOp (rIxT K) (tVar 2) (tC (.int 1))) tNil)) (gTup K 2 (gCons (gName 3) (gCons (gName 4) gNil))) (tDrop (tBM K "list" rExtend (tVar 1) (tCons (tOp rCat (tLst (tCons (tIf (tTest (tOp rEq (tVar 3) (tC (.int 0)))) (tC (.str "either")) (tC (.str "or"))) tNil)) (tCall (sp_curly K dp) [] E0 (tCons (tVar 4) tNil))) tNil)))) (tDrop (tBM K "list" rExtend (tVar 1) (tCons (tOp rCat (tCB (rListOf K) (tCons (tVar 2) tNil)) (tLst (tCons (tC (.str ";")) tNil))) tNil)))))))) (tRet (tVar 1)))
/-- 0 _law_body_here -/
def t__law_curly (K : PySem.W.Frag) (dp : Nat) : TS := tRet (tOp rCat (tOp rCat (tLst (tCons (tC (.str "{")) tNil)) (tCall (sp_signs K dp) [] E0 (tCons (tVar 0) tNil))) (tLst (tCons (tC (.str "}")) tNil)))
/-- 0 _law_bag_here, 1 _law_tokens, 2 _law_text, 3 _law_places, 4 _law_at, 5 _law_token -/
def t__law_spread (K : PySem.W.Frag) : TS := tSeq (tPar 2 3 (tCons (tCall (sp_one K) [] E0 (tCons (tVar 0) (tCons (tLst (tCons (tC (.str "")) (tCons (tC (.str " ")) (tCons (tC (.str "\n")) tNil)))) tNil))) (tCons (tLst tNil) tNil))) (tSeq (tFor (iEnum K (tCons (tVar 1) tNil)) (gTup K 2 (gCons (gName 4) (gCons (gName 5) gNil))) (tSeq (tDrop (tBM K "list" rAppend (tVar 3) (tCons (tCB rLenStr (tCons (tVar 2) tNil)) tNil))) (tSeq (tAsg (tOp rAddSt (tOp rAddSt (tVar 2) (tVar 5)) (tCall (sp_one K) [] E0 (tCons (tVar 0) (tCons (tLst (tCons (tC (.str "")) (tCons (tC (.str " ")) (tCons (tC (.str "\n")) (tCons (tC (.str "  ")) (tCons (tC (.str " \n ")) tNil)))))) tNil)))) (gName 2)) (tIfS (tAnd (tTest (tOp rLtI (tOp rAddI (tVar 4) (tC (.int 1))) (tCB (rLenSq K) (tCons (tVar 1) tNil)))) (tAnd (tB (tM0 rIsAlpha (tSl rSlS (tVar 2) (tPart (tUn rNegI (tC (.int 1)))) tNoPart))) (tB (tM0 rIsAlpha (tOp (rIxL K) (tVar 1) (tOp rAddI (tVar 4) (tC (.int 1)))))))) (tAsg (tOp rAddSt (tVar 2) (tC (.str " "))) (gName 2)) tNext)))) (tRet (tTup (tCons (tVar 2) (tCons (tVar 3) tNil)))))
end Ef

namespace Ef
open PySem PySem.Spec PyProof.Rows L2 Evl
section
variable {K : PySem.W.Frag}
theorem pure_fits_word (hR : ∀ H, SqT K H (He.ga K "RESERVED") (reserved.map V.str)) (vs : List V) (H : Hp) (Q : VK) (E : XK) (h : sp_fits_word vs H Q E) : t_fits_word K { nx := fun _ H' => Q .non H', rt := Q } (start ["token", "sign"] vs) H := by
  obtain ⟨z, rfl, hl, k⟩ := h
  have hv : ∀ G, Ev (tVar 0) (start ["token", "sign"] [.str z]) G (.str z) := fun G => ev_var rfl
  refine q_when (et_or (et_not (et_test (ev_chain2 (r := rLeI) (r' := rLeI) ev_c (ev_lenStr (hv H) hl) ev_c rv_I0 rv_I0))) fun _ => et_test (ev_op (hv H) ev_c (rv_isT (hR H) rfl (flat_strs _)))) (fun e H1 x1 => ?_) (fun e H1 x1 => ?_)
  · refine s_ret ev_c fun H2 x2 => ?_
    have : fitsW z = false := by
      unfold fitsW
      rw [inV_strs] at e
      simp only [Bool.or_eq_true, Bool.not_eq_true', Bool.and_eq_false_iff, decide_eq_false_iff_not, decide_eq_true_eq] at e
      rcases e with (e | e) | e
      · rw [decide_eq_false (by omega)]; rfl
      · rw [decide_eq_false (p := z.length ≤ 8) (by omega)]; simp
      · rw [decide_eq_true e]; simp
    have kk := k H2 (x1.trans x2)
    rw [this] at kk
    exact kk
  · rw [inV_strs] at e
    simp only [Bool.or_eq_false_iff, Bool.not_eq_false', Bool.and_eq_true, decide_eq_false_iff_not, decide_eq_true_eq] at e
    obtain ⟨⟨e1, e2⟩, e3⟩ := e
    refine s_ret (ev_all (bs := z.cps.toList.map fun c => decide (c ∈ smalls.cps.toList)) ?_) fun H2 x2 => ?_
    · have z1 : ((z.cps.toList.map fun c => decide (c ∈ smalls.cps.toList)).map V.bl) = ((z.cps.toList.filter fun _ => true).map fun c => V.bl (decide (c ∈ smalls.cps.toList))) := by
        rw [filter_true, List.map_map]; rfl
      rw [z1]
      exact el_lcS (fun _ => true) (fun c => V.bl (decide (c ∈ smalls.cps.toList))) (hv H1) (by omega) (fun _ => rfl) (fun c => et_yes) (fun c _ => ev_op (ev_var rfl) ev_c rv_inSign)
    · have : fitsW z = (List.map (fun c => decide (c ∈ smalls.cps.toList)) z.cps.toList).all id := by
        unfold fitsW
        rw [decide_eq_true (show 1 ≤ z.length by omega), decide_eq_true (show z.length ≤ 8 by omega), decide_eq_false e3, List.all_map]
        simp
      have kk := k H2 (x1.trans x2)
      rw [this] at kk
      exact kk
theorem pure__law_bag (vs : List V) (H : Hp) (Q : VK) (E : XK) (h : sp_bag K vs H Q E) : t__law_bag K { nx := fun _ H' => Q .non H', rt := Q } (start ["_law_script", "_law_at", "_law_cell", "_law_seed", "_law_turn", "_law_each"] vs) H := by
  obtain ⟨a, ns, i, rfl, hS, hlen, i0, i1, k⟩ := h
  have hlen2 : (ns.map V.int).length = ns.length := List.length_map ..
  -- cell
  obtain ⟨c, hc⟩ : ∃ c : Int, Ev (tIf (tTest (tOp rLtI (tVar 1) (tCB (rLenSq K) (tCons (tVar 0) tNil)))) (tOp (rIxL K) (tVar 0) (tVar 1)) (tC (.int 0))) (start ["_law_script", "_law_at", "_law_cell", "_law_seed", "_law_turn", "_law_each"] [.ref a, .int i]) H (.int c) := by
    by_cases hi : i < ns.length
    · obtain ⟨c, hc⟩ := atI_int (ns := ns) i0 hi
      refine ⟨c, ev_if (et_test (ev_op (ev_var rfl) (ev_lenSq (ev_var rfl) (.inl hS)) rv_I0)) (fun _ => ev_ix (ev_var rfl) (ev_var rfl) hS hc) (fun e => ?_)⟩
      rw [hlen2] at e
      exact absurd hi (of_decide_eq_false e)
    · refine ⟨0, ev_if (et_test (ev_op (ev_var rfl) (ev_lenSq (ev_var rfl) (.inl hS)) rv_I0)) (fun e => ?_) (fun _ => ev_c)⟩
      rw [hlen2] at e
      exact absurd (of_decide_eq_true e) hi
  refine q_asg hc fun H1 x1 => ?_
  refine q_asg (ev_add (ev_mul ev_c (ev_var rfl) (cmul_l (by decide) (by decide))) ev_c) fun H2 x2 => ?_
  -- the walk
  refine ⟨_, rfl, 63, rfl, a, _, rfl, ex_l (x1.trans x2) hS, fun p hp => ?_⟩
  have x3 : Evl.Ex H (upd H2 p (.lst (cutV (ns.map V.int) none (some 63)))) := (x1.trans x2).trans (Evl.Ex.new hp)
  have hp0 : H p = none := fresh_back (x1.trans x2) hp
  have hcut : ∃ ms : List Int, cutV (ns.map V.int) none (some 63) = ms.map V.int := ⟨(ns.drop (HT.sIx (ns.map V.int).length 0 none)).take (HT.sIx (ns.map V.int).length (ns.map V.int).length (some 63) - HT.sIx (ns.map V.int).length 0 none), by
    unfold cutV; rw [List.map_take, List.map_drop]⟩
  obtain ⟨ms, hms⟩ := hcut
  have hml : ms.length ≤ 63 := by
    have q := cutV_length (ns.map V.int) none (some 63)
    rw [hms, List.length_map, List.length_map] at q
    omega
  refine ⟨p, _, rfl, sq_of upd_same, ?_⟩
  refine for_it (walk_enum (xs := ms.map V.int)) (fun i' σ G => ∃ (s : Int) (v4 v5 : Option V), σ = [some (.ref a), some (.int i), some (.int c), some (.int s), v4, v5] ∧ 0 ≤ s ∧ s ≤ 2147483647 ∧ Evl.Ex H G ∧ G p = some (.lst (ms.map V.int)))
    ⟨6151 * i + 389, none, none, rfl, by omega, by omega, x3, by rw [upd_same, hms]⟩ ?_ ?_ ?_
  · rintro i' σ G hi ⟨s, v4, v5, rfl, s0, s1, xg, hg⟩
    exact sq_of hg
  · rintro i' x σ G G' hi ⟨s, v4, v5, rfl, s0, s1, xg, hg⟩ ⟨T, y1, y2, rfl, nT, rfl, e4, e5⟩
    rw [List.length_map] at hi
    have e6 : y1 = .int (i' : Nat) := (Option.some.inj e4).symm
    have e7 : ∃ m : Int, y2 = .int m := by
      have e5 : (List.map V.int ms)[i']? = some y2 := e5
      rw [List.getElem?_map, List.getElem?_eq_getElem hi] at e5
      exact ⟨_, (Option.some.inj e5).symm⟩
    obtain ⟨m, rfl⟩ := e7
    subst e6
    have xT : Evl.Ex G (upd G T (.tup [.int (i' : Nat), .int m])) := Evl.Ex.new nT
    refine ⟨T, _, rfl, st_of upd_same, rfl, _, _, rfl, _, _, rfl, rfl, ?_⟩
    refine s_asg (ev_mod (ev_intOf (ev_add (ev_add (ev_mul (ev_var rfl) ev_c (cmul_l s0 (by omega))) (ev_mod (ev_intOf (ev_var rfl)) ev_c (by decide))) (ev_mul ev_c (ev_var rfl) (cmul_l (by decide) (by decide))))) ev_c (by decide)) fun G2 x2 => ?_
    refine ⟨_, _, _, rfl, ?_, ?_, (xg.trans xT).trans x2, x2 _ _ (xT _ _ hg)⟩
    · exact Int.emod_nonneg _ (by decide)
    · have := Int.emod_lt_of_pos (s * 39373 + m % 2147483579 + 57 * (i' : Int)) (show (0 : Int) < 2147483423 by decide)
      omega
  · rintro σ G ⟨s, v4, v5, rfl, s0, s1, xg, hg⟩
    obtain ⟨n, hn0, hn⟩ : ∃ n : Int, 0 ≤ n ∧ Ev (tIf (tTest (tOp rGeI (tCB rAbsI (tCons (tVar 2) tNil)) (tOp rPowI (tC (.int 10)) (tC (.int 18))))) (tCB rAbsI (tCons (tVar 2) tNil)) (tC (.int 0))) [some (.ref a), some (.int i), some (.int c), some (.int s), v4, v5] G (.int n) := by
      have ht : EvT (tTest (tOp rGeI (tCB rAbsI (tCons (tVar 2) tNil)) (tOp rPowI (tC (.int 10)) (tC (.int 18))))) [some (.ref a), some (.int i), some (.int c), some (.int s), v4, v5] G (decide ((10 : Int) ^ (18 : Int).toNat ≤ (if c < 0 then -c else c))) :=
        et_test (ev_op (ev_abs (ev_var rfl)) (ev_pow ev_c ev_c ⟨by decide, by decide, by decide⟩) rv_I0)
      by_cases q : (10 : Int) ^ (18 : Int).toNat ≤ (if c < 0 then -c else c)
      · refine ⟨if c < 0 then -c else c, by split <;> omega, ev_if ht (fun _ => ev_abs (ev_var rfl)) (fun e => absurd q (of_decide_eq_false e))⟩
      · exact ⟨0, by decide, ev_if ht (fun e => absurd (of_decide_eq_true e) q) (fun _ => ev_c)⟩
    refine s_retL (el_lst (ea_cons hn (ea_cons (ev_var rfl) ea_nil)) (by show 2 ≤ 100000; decide)) fun b G2 hb x2 h2 => ?_
    exact k G2 b (xg.trans x2) (fresh_back xg hb) ⟨n, s, h2, hn0, s0, by omega⟩
theorem pure__law_draw (vs : List V) (H : Hp) (Q : VK) (E : XK) (h : sp_draw vs H Q E) : t__law_draw K { nx := fun _ H' => Q .non H', rt := Q } (start ["_law_bag_here", "_law_many", "_law_digit"] vs) H := by
  obtain ⟨b, m, rfl, ⟨x, s, hb, x0, s0, s1⟩, m0, m1, k⟩ := h
  have hq : SqL K H b [.int x, .int s] := sq_of hb
  have le : ∀ (G : Hp) (x' s' : Int), Evl.Ex H G → 0 ≤ x' → 0 ≤ s' → s' < 2147483648 → Le b H (upd G b (.lst [.int x', .int s'])) := fun G x' s' e h1 h2 h3 =>
    ⟨fun a o n q => by rw [upd_ne n]; exact e a o q, fun _ => ⟨x', s', upd_same, h1, h2, h3⟩⟩
  refine q_when (et_test (ev_op (ev_ix (ev_var rfl) ev_c hq (atI0 _ _)) ev_c rv_I0)) (fun e H1 x1 => ?_) (fun e H1 x1 => ?_)
  · refine q_asg (ev_mod (ev_intOf (ev_ix (ev_var rfl) ev_c (ex_l x1 hq) (atI0 _ _))) (ev_var rfl) m0) fun H2 x2 => ?_
    refine q_setL (j := 0) (x2 _ _ (x1 _ _ hb)) (ev_divW (ev_ix (ev_var rfl) ev_c (ex_l (x1.trans x2) hq) (atI0 _ _)) (ev_var rfl) ⟨m0, ?_⟩) (ev_var rfl) ev_c (by show 0 < 2; decide) fun H3 x3 => ?_
    · have : m.natAbs ≤ 10 ^ 30 := by omega
      have h2 : m.natAbs.log2 ≤ (10 ^ 30 : Nat).log2 := by
        rcases Nat.eq_zero_or_pos m.natAbs with z | z
        · rw [z]; decide
        · exact (Nat.le_log2 (by decide)).mpr (Nat.le_trans (Nat.log2_self_le (by omega)) this)
      exact Nat.lt_of_le_of_lt h2 (by decide)
    · refine s_ret (ev_var rfl) fun H4 x4 => ?_
      have l1 := le H3 (x / m) s ((x1.trans x2).trans x3) (Int.ediv_nonneg x0 (Int.le_of_lt m0)) s0 s1
      exact k H4 (x % m) (l1.trans (Le.of x4)) (Int.emod_nonneg _ (by omega)) (Int.emod_lt_of_pos _ m0)
  · refine q_setL (j := 1) (x1 _ _ hb) (ev_mod (ev_intOf (ev_add (ev_mul (ev_ix (ev_var rfl) ev_c (ex_l x1 hq) (atI1 _ _)) ev_c (cmul_l s0 (by omega))) ev_c)) ev_c (by decide)) (ev_var rfl) ev_c (by show 1 < 2; decide) fun H2 x2 => ?_
    have t0 := Int.emod_nonneg (s * 69621 + 40503) (show (2147483647 : Int) ≠ 0 by decide)
    have t1 := Int.emod_lt_of_pos (s * 69621 + 40503) (show (0 : Int) < 2147483647 by decide)
    generalize (s * 69621 + 40503) % 2147483647 = s2 at t0 t1 ⊢
    have hq2 : SqL K (upd H2 b (.lst [.int x, .int s2])) b [.int x, .int s2] := sq_of upd_same
    have l1 := le H2 x s2 (x1.trans x2) x0 t0 (by omega)
    refine s_ret (ev_mod (ev_div (ev_mod (ev_intOf (ev_mul (ev_div (ev_ix (ev_var rfl) ev_c hq2 (atI1 _ _)) ev_c ⟨by decide, by decide⟩) ev_c (cmul_l (by omega) (by omega)))) ev_c (by decide)) ev_c ⟨by decide, by decide⟩) (ev_var rfl) m0) fun H4 x4 => ?_
    exact k H4 _ (l1.trans (Le.of x4)) (Int.emod_nonneg _ (by omega)) (Int.emod_lt_of_pos _ m0)
theorem pure__law_one (vs : List V) (H : Hp) (Q : VK) (E : XK) (h : sp_one K vs H Q E) : t__law_one K { nx := fun _ H' => Q .non H', rt := Q } (start ["_law_bag_here", "_law_some_here"] vs) H := by
  obtain ⟨b, l, xs, rfl, hb, nb, hS, hn, hl, k⟩ := h
  have hpos : 0 < xs.length := List.length_pos_iff.mpr hn
  refine ⟨_, rfl, _, rfl, _, rfl, l, xs, rfl, .inl hS, b, _, rfl, hb, by omega, by omega, fun H1 d le d0 d1 => ?_⟩
  obtain ⟨j, rfl⟩ := Int.eq_ofNat_of_zero_le d0
  have hj : j < xs.length := by omega
  exact ⟨l, xs, (j : Int), xs[j], rfl, rfl, le.sql nb hS, atI_nat (List.getElem?_eq_getElem hj), k H1 _ le (List.getElem_mem hj)⟩
end
end Ef

namespace Ef
open PySem PySem.Spec PyProof.Rows L2 Evl
section
variable {K : PySem.W.Frag}
theorem tl_cut1 (z : Str) : (cutS z (some 1) none).cps.toList = z.cps.toList.drop 1 := by
  have e1 : TL.tl (cutS z (some 1) none) = ((TL.tl z).drop (HT.sIx z.length 0 (some 1))).take (HT.sIx z.length z.length none - HT.sIx z.length 0 (some 1)) := rfl
  show TL.tl (cutS z (some 1) none) = (TL.tl z).drop 1
  rw [e1, show HT.sIx z.length 0 (some 1) = min 1 z.length from HT.sIx_nat z.length 0 1, HT.sIx_none, TL.len_tl]
  cases TL.tl z with
  | nil => rfl
  | cons c r =>
    rw [List.length_cons, Nat.min_eq_left (by omega)]
    show List.take (r.length + 1 - 1) r = r
    rw [Nat.add_sub_cancel, List.take_length]
theorem pure_fits_class (vs : List V) (H : Hp) (Q : VK) (E : XK) (h : sp_fits_class vs H Q E) : t_fits_class K { nx := fun _ H' => Q .non H', rt := Q } (start ["token", "sign"] vs) H := by
  obtain ⟨z, rfl, hl, k⟩ := h
  have hv : ∀ G, Ev (tVar 0) (start ["token", "sign"] [.str z]) G (.str z) := fun G => ev_var rfl
  have e2 : ((1 : Int) ≤ (z.length : Int)) ↔ 1 ≤ z.length := by omega
  have e3 : ((z.length : Int) ≤ 8) ↔ z.length ≤ 8 := by omega
  by_cases hb : 1 ≤ z.length ∧ z.length ≤ 8
  · obtain ⟨c, r, hz⟩ : ∃ c r, z.cps.toList = c :: r := by
      cases q : z.cps.toList with
      | nil =>
        have := TL.len_tl z
        have q' : TL.tl z = [] := q
        rw [q'] at this
        simp at this
        omega
      | cons c r => exact ⟨c, r, rfl⟩
    have at0 : atI z.cps.toList 0 = some c := by rw [hz]; exact atI_nat (j := 0) rfl
    refine q_when (et_or (et_not (et_test (ev_chain2 (r := rLeI) (r' := rLeI) ev_c (ev_lenStr (hv H) hl) ev_c rv_I0 rv_I0))) fun _ => et_test (ev_op (ev_ixS (hv H) ev_c hl at0) ev_c rv_notInSign)) (fun e H1 x1 => ?_) (fun e H1 x1 => ?_)
    · refine s_ret ev_c fun H2 x2 => ?_
      have : fitsC z = false := by
        unfold fitsC
        rw [hz]
        simp only [e2, e3, hb.1, hb.2, decide_true, Bool.and_self, Bool.not_true, Bool.false_or, Bool.not_eq_true'] at e ⊢
        have e5 : decide (c ∈ larges.cps.toList) = false := e
        rw [e5]; rfl
      have kk := k H2 (x1.trans x2)
      rw [this] at kk
      exact kk
    · refine s_ret (ev_all (bs := r.map fun c => decide (c ∈ smalls.cps.toList)) ?_) fun H2 x2 => ?_
      · have z1 : ((r.map fun c => decide (c ∈ smalls.cps.toList)).map V.bl) = (((cutS z (some 1) none).cps.toList.filter fun _ => true).map fun c => V.bl (decide (c ∈ smalls.cps.toList))) := by
          rw [filter_true, List.map_map, tl_cut1, hz]; rfl
        rw [z1]
        have c1 := cutS_len z (some 1) none
        exact el_lcS (fun _ => true) (fun c => V.bl (decide (c ∈ smalls.cps.toList))) (ev_slS (hv H1) (eo_some ev_c) eo_none hl) (by omega) (fun _ => rfl) (fun c => et_yes) (fun c _ => ev_op (ev_var rfl) ev_c rv_inSign)
      · have : fitsC z = (List.map (fun c => decide (c ∈ smalls.cps.toList)) r).all id := by
          unfold fitsC
          rw [hz]
          simp only [e2, e3, hb.1, hb.2, decide_true, Bool.and_self, Bool.not_true, Bool.false_or, Bool.not_eq_false', Bool.true_and, List.all_map] at e ⊢
          have e5 : decide (c ∈ larges.cps.toList) = true := e
          rw [e5]; rfl
        have kk := k H2 (x1.trans x2)
        rw [this] at kk
        exact kk
  · have hf : (decide ((1 : Int) ≤ (z.length : Int)) && decide ((z.length : Int) ≤ 8)) = false := by
      simp only [e2, e3]
      by_cases h1 : 1 ≤ z.length
      · rw [decide_eq_false (fun h2 => hb ⟨h1, h2⟩)]; simp
      · rw [decide_eq_false h1]; rfl
    refine q_when (et_is (et_or (b := true) (et_not (et_test (ev_chain2 (r := rLeI) (r' := rLeI) ev_c (ev_lenStr (hv H) hl) ev_c rv_I0 rv_I0))) fun e => ?_) (b := true) (by rw [hf]; rfl)) (fun e H1 x1 => ?_) (fun e => by cases e)
    · rw [hf] at e; cases e
    · refine s_ret ev_c fun H2 x2 => ?_
      have : fitsC z = false := by
        unfold fitsC
        simp only [e2, e3] at hf
        rw [hf]; rfl
      have kk := k H2 (x1.trans x2)
      rw [this] at kk
      exact kk
end
end Ef

namespace Ef
open PySem PySem.Spec PyProof.Rows L2 Evl
/-! tokens_of -/
theorem while_split {p : Nat → Bool} : ∀ (r : List Nat) (j : Nat), (∀ k, k < j → ∃ c, r[k]? = some c ∧ p c = true) → (∀ c, r[j]? = some c → p c = false) → r.takeWhile p = r.take j ∧ r.dropWhile p = r.drop j
  | [], j, h, _ => by
    cases j with
    | zero => exact ⟨rfl, rfl⟩
    | succ j => obtain ⟨c, e, _⟩ := h 0 (by omega); simp at e
  | c :: r, 0, _, h2 => by
    have e := h2 c rfl
    rw [List.takeWhile_cons, List.dropWhile_cons, e]
    exact ⟨rfl, rfl⟩
  | c :: r, j + 1, h, h2 => by
    obtain ⟨d, e, hd⟩ := h 0 (by omega)
    have e' : c = d := Option.some.inj e
    subst e'
    have ih := while_split r j (fun k hk => h (k + 1) (by omega)) (fun d hd => h2 d hd)
    rw [List.takeWhile_cons, List.dropWhile_cons, hd, if_pos rfl, if_pos rfl, ih.1, ih.2]
    exact ⟨rfl, rfl⟩
theorem cut_mid (z : Str) {i j : Nat} (h1 : i ≤ j) (h2 : j ≤ z.length) : cutS z (some (i : Int)) (some (j : Int)) = ⟨((z.cps.toList.drop i).take (j - i)).toArray⟩ := by
  unfold cutS
  rw [HT.sIx_nat, HT.sIx_nat, Nat.min_eq_left h2, Nat.min_eq_left (Nat.le_trans h1 h2)]
section
variable {K : PySem.W.Frag}
theorem len_tokens_of {vs : List V} {H : Hp} {Q : VK} {E : XK} (h : sp_tokens_of vs H Q E) : vs.length = 1 := by
  obtain ⟨z, rfl, _⟩ := h; rfl
theorem rows_ex {H H1 : Hp} {p : Addr} {T : List (Int × Str)} (e : Evl.Ex H H1) (h : Rows H p T) : Rows H1 p T := by
  obtain ⟨as, h1, h2, h3⟩ := h
  exact ⟨as, e _ _ h1, h2, fun i a t x y => e _ _ (h3 i a t x y)⟩
/-- rows.append((i, w)) -/
theorem rows_app {H : Hp} {p : Addr} {T : List (Int × Str)} (h : Rows H p T) : ∃ xs, H p = some (.lst xs) ∧ xs.length = T.length ∧
    ∀ H1 q (t : Int × Str), Evl.Ex H H1 → H1 q = some (.tup [.int t.1, .str t.2]) → Rows (upd H1 p (.lst (xs ++ [.ref q]))) p (T ++ [t]) := by
  obtain ⟨as, h1, h2, h3⟩ := h
  refine ⟨_, h1, by rw [List.length_map, h2], fun H1 q t e hq => ⟨as ++ [q], ?_, ?_, fun i a u x y => ?_⟩⟩
  · rw [upd_same, List.map_append]; rfl
  · rw [List.length_append, List.length_append, h2]; rfl
  · have key : H1 a = some (.tup [.int u.1, .str u.2]) := by
      by_cases hi : i < as.length
      · rw [List.getElem?_append_left hi] at x
        rw [List.getElem?_append_left (by omega)] at y
        exact e _ _ (h3 i a u x y)
      · have e1 := (List.getElem?_eq_some_iff.mp x).1
        rw [List.length_append] at e1
        have e2 : i = as.length := by simp at e1; omega
        subst e2
        rw [List.getElem?_append_right (Nat.le_refl _), Nat.sub_self] at x
        rw [List.getElem?_append_right (by omega), ← h2, Nat.sub_self] at y
        have e3 : q = a := Option.some.inj x
        have e4 : t = u := Option.some.inj y
        subst e3 e4
        exact hq
    rw [upd_ne (ne_of key (e _ _ h1) (fun z => nomatch z))]
    exact key
theorem let_noblank {c : Nat} (h : isLet c = true) : isBlank c = false := by
  have h2 : c ∈ letters.cps.toList := of_decide_eq_true h
  have : letters.cps.toList.all (fun c => !isBlank c) = true := by decide +kernel
  have := List.all_eq_true.mp this c h2
  simpa using this
/-- the rest of the tokens, from the i-th sign on -/
def restT (z : Str) (i : Nat) : List (Int × Str) := (tokenize i (z.cps.toList.drop i)).map fun t => ((t.1 : Int), ⟨t.2.toArray⟩)
theorem cps_at {z : Str} {i : Nat} (h : i < z.length) : ∃ c, z.cps.toList[i]? = some c ∧ z.cps.toList.drop i = c :: z.cps.toList.drop (i + 1) := by
  have h2 : i < z.cps.toList.length := by rw [Array.length_toList]; exact h
  exact ⟨z.cps.toList[i], List.getElem?_eq_getElem h2, List.drop_eq_getElem_cons h2⟩
theorem pure_tokens_of (vs : List V) (H : Hp) (Q : VK) (E : XK) (h : sp_tokens_of vs H Q E) : t_tokens_of K { nx := fun _ H' => Q .non H', rt := Q } (start ["text", "rows", "begin", "finish"] vs) H := by
  obtain ⟨z, rfl, hl, k⟩ := h
  have hlen : z.cps.toList.length = z.length := by rw [Array.length_toList]; rfl
  refine ⟨by decide, fun p hp => ⟨_, _, rfl, ?_⟩⟩
  have x0 : Evl.Ex H (upd H p (.lst [])) := Evl.Ex.new hp
  refine q_while (fun m σ G => ∃ (i : Nat) (T : List (Int × Str)) (v3 : Option V), σ = [some (.str z), some (.ref p), some (.int i), v3] ∧ i ≤ z.length ∧ m = z.length - i ∧ Evl.Ex H G ∧ Rows G p T ∧ T.length ≤ i ∧ tokens z = T ++ restT z i) z.length
    ⟨0, [], none, rfl, Nat.zero_le _, by omega, x0, ⟨[], by rw [upd_same]; rfl, rfl, fun i a t x => by simp at x⟩, Nat.le_refl _, by unfold restT tokens; rw [List.nil_append, List.drop_zero]⟩ ?_
  rintro m σ G ⟨i, T, v3, rfl, hi, rfl, xg, hT, hTl, ht⟩
  refine ⟨decide ((i : Int) < (z.length : Int)), et_test (ev_op (ev_var rfl) (ev_lenStr (ev_var rfl) hl) rv_I0), fun e G1 x1 => ?_, fun e G1 x1 => ?_⟩
  · have hlt : i < z.length := by have := of_decide_eq_true e; omega
    obtain ⟨c, hc, hd⟩ := cps_at hlt
    have hix : atI z.cps.toList (i : Int) = some c := atI_nat hc
    have restT_eq : restT z i = (if isLet c then (((i : Nat) : Int), (⟨(c :: (z.cps.toList.drop (i + 1)).takeWhile isLet).toArray⟩ : Str)) :: restT z (i + 1 + ((z.cps.toList.drop (i + 1)).takeWhile isLet).length) else if isBlank c then restT z (i + 1) else (((i : Nat) : Int), (⟨#[c]⟩ : Str)) :: restT z (i + 1)) := by
      unfold restT
      rw [hd, tokenize]
      split
      · rw [List.map_cons]
        congr 2
        have ws := while_split (p := isLet) (z.cps.toList.drop (i + 1)) ((z.cps.toList.drop (i + 1)).takeWhile isLet).length
        have e1 : (z.cps.toList.drop (i + 1)).dropWhile isLet = (z.cps.toList.drop (i + 1)).drop ((z.cps.toList.drop (i + 1)).takeWhile isLet).length := by
          have q := List.takeWhile_append_dropWhile (p := isLet) (l := z.cps.toList.drop (i + 1))
          conv => rhs; arg 2; rw [← q]
          rw [List.drop_left]
        rw [e1, List.drop_drop]
      · split <;> rfl
    -- what is left to do behind the inner loop
    have tail : ∀ (D : Ends) (j : Nat) (G2 : Hp), (∀ σ2 H2, (∃ m', m' < z.length - i ∧ ∃ (i : Nat) (T : List (Int × Str)) (v3 : Option V), σ2 = [some (.str z), some (.ref p), some (.int i), v3] ∧ i ≤ z.length ∧ m' = z.length - i ∧ Evl.Ex H H2 ∧ Rows H2 p T ∧ T.length ≤ i ∧ tokens z = T ++ restT z i) → D.nx σ2 H2) → Evl.Ex G G2 → i < j → j ≤ z.length →
        ((isLet c = true ∧ (z.cps.toList.drop (i + 1)).takeWhile isLet = (z.cps.toList.drop (i + 1)).take (j - (i + 1)) ∧ j - (i + 1) ≤ (z.cps.toList.drop (i + 1)).length) ∨ (isLet c = false ∧ j = i + 1)) →
        tSeq (tIfS (tTest (tOp rNotInSign (tOp rIxS (tVar 0) (tVar 2)) (tC (.str " \n")))) (tDrop (tBM K "list" rAppend (tVar 1) (tCons (tTup (tCons (tVar 2) (tCons (tSl rSlS (tVar 0) (tPart (tVar 2)) (tPart (tVar 3))) tNil))) tNil))) tNext) (tAsg (tVar 3) (gName 2))
          D [some (.str z), some (.ref p), some (.int i), some (.int j)] G2 := by
      intro D j G2 kD x2 hij hj hcase
      have hT2 := rows_ex x2 hT
      have hw : cutS z (some (i : Int)) (some (j : Int)) = ⟨(c :: (z.cps.toList.drop (i + 1)).take (j - (i + 1))).toArray⟩ := by
        rw [cut_mid z (by omega) hj, hd, show j - i = (j - (i + 1)) + 1 by omega]
        rfl
      refine q_when (et_test (ev_op (ev_ixS (ev_var rfl) (ev_var rfl) hl hix) ev_c rv_notInSign)) (fun e G3 x3 => ?_) (fun e G3 x3 => ?_)
      · obtain ⟨xs, hxs, hxl, hap⟩ := rows_app (rows_ex x3 hT2)
        refine s_appU hxs (ev_var rfl) (eu_tup (ea_cons (ev_var rfl) (ea_cons (ev_slS (ev_var rfl) (eo_some (ev_var rfl)) (eo_some (ev_var rfl)) hl) ea_nil)) (by show 2 ≤ 100000; decide)) (by omega) fun q G4 hq x4 h4 => ?_
        have hr := hap G4 q ((i : Int), cutS z (some (i : Int)) (some (j : Int))) x4 h4
        have nb : isBlank c = false := by
          have : (!isBlank c) = true := e
          simpa using this
        refine s_asg (ev_var rfl) fun G5 x5 => ?_
        refine kD _ _ ⟨z.length - j, by omega, j, _, _, rfl, hj, rfl, ?_, rows_ex x5 hr, ?_, ?_⟩
        · exact (Evl.Ex.mut (xg.trans (x2.trans (x3.trans x4))) hp).trans x5
        · rw [List.length_append]; simp; omega
        · rw [ht, restT_eq, hw]
          rcases hcase with ⟨hL, h1, h2⟩ | ⟨hL, rfl⟩
          · rw [if_pos hL, h1, List.length_take, Nat.min_eq_left h2, show i + 1 + (j - (i + 1)) = j by omega, List.append_assoc]
            rfl
          · rw [if_neg (by rw [hL]; decide), if_neg (by rw [nb]; decide), Nat.sub_self, List.append_assoc]
            rfl
      · have bl : isBlank c = true := by
          have : (!isBlank c) = false := e
          simpa using this
        have nl : isLet c = false := by
          cases q : isLet c with
          | false => rfl
          | true => rw [let_noblank q] at bl; cases bl
        rcases hcase with ⟨hL, _⟩ | ⟨_, rfl⟩
        · rw [hL] at nl; cases nl
        · refine s_asg (ev_var rfl) fun G5 x5 => ?_
          refine kD _ _ ⟨z.length - (i + 1), by omega, i + 1, T, _, rfl, hj, rfl, (xg.trans (x2.trans x3)).trans x5, rows_ex (x3.trans x5) hT2, by omega, ?_⟩
          rw [ht, restT_eq, if_neg (by rw [nl]; decide), if_pos bl]
    refine ⟨fun σ2 H2 => ∃ m', m' < z.length - i ∧ ∃ (i : Nat) (T : List (Int × Str)) (v3 : Option V), σ2 = [some (.str z), some (.ref p), some (.int i), v3] ∧ i ≤ z.length ∧ m' = z.length - i ∧ Evl.Ex H H2 ∧ Rows H2 p T ∧ T.length ≤ i ∧ tokens z = T ++ restT z i, fun σ2 H2 h => h, ?_⟩
    refine q_asg (ev_add (ev_var rfl) ev_c) fun G2 x2 => ?_
    refine q_if (et_test (ev_op (ev_ixS (ev_var rfl) (ev_var rfl) hl hix) ev_c rv_inSign)) (fun e G3 x3 => ?_) (fun e G3 x3 => ?_)
    · have hL : isLet c = true := e
      refine s_while (fun m σ G4 => ∃ j : Nat, σ = [some (.str z), some (.ref p), some (.int i), some (.int j)] ∧ i < j ∧ j ≤ z.length ∧ m = z.length - j ∧ Evl.Ex G G4 ∧ ∀ k, k < j - (i + 1) → ∃ c, (z.cps.toList.drop (i + 1))[k]? = some c ∧ isLet c = true) (z.length - (i + 1))
        ⟨i + 1, rfl, by omega, by omega, rfl, (x1.trans x2).trans x3, fun k hk => by omega⟩ ?_
      rintro m σ G4 ⟨j, rfl, hij, hj, rfl, x4, hk⟩
      by_cases hjl : j < z.length
      · obtain ⟨d, hd2, hdd⟩ := cps_at hjl
        refine ⟨isLet d, et_is (et_and (b := isLet d) (et_test (ev_op (ev_var rfl) (ev_lenStr (ev_var rfl) hl) rv_I0)) fun _ => et_test (ev_op (ev_ixS (ev_var rfl) (ev_var rfl) hl (atI_nat hd2)) ev_c rv_inSign)) (by rw [decide_eq_true (show (j : Int) < (z.length : Int) by omega), Bool.true_and]), fun e G5 x5 => ?_, fun e G5 x5 => ?_⟩
        · refine ⟨_, fun σ2 H2 h => h, s_aug rfl ev_c fun G6 x6 => ⟨z.length - (j + 1), by omega, j + 1, rfl, by omega, by omega, rfl, x4.trans (x5.trans x6), fun k hk2 => ?_⟩⟩
          by_cases q : k < j - (i + 1)
          · exact hk k q
          · have : k = j - (i + 1) := by omega
            subst this
            refine ⟨d, ?_, e⟩
            rw [List.getElem?_drop, show i + 1 + (j - (i + 1)) = j by omega]
            exact hd2
        · refine tail _ j G5 (fun _ _ h => h) (x4.trans x5) hij hj (.inl ⟨hL, (while_split _ _ hk fun d' hd' => ?_).1, ?_⟩)
          · rw [List.getElem?_drop, show i + 1 + (j - (i + 1)) = j by omega, hd2] at hd'
            have : d = d' := Option.some.inj hd'
            subst this
            exact e
          · rw [List.length_drop, hlen]; omega
      · have hje : j = z.length := by omega
        refine ⟨false, et_is (et_and (b := false) (et_test (ev_op (ev_var rfl) (ev_lenStr (ev_var rfl) hl) rv_I0)) fun e => absurd (of_decide_eq_true e) (by omega)) (by simp), (fun e => by cases e), fun _ G5 x5 => ?_⟩
        refine tail _ j G5 (fun _ _ h => h) (x4.trans x5) hij hj (.inl ⟨hL, (while_split _ _ hk fun d' hd' => ?_).1, ?_⟩)
        · rw [List.getElem?_drop, show i + 1 + (j - (i + 1)) = j by omega, List.getElem?_eq_none (by omega)] at hd'
          cases hd'
        · rw [List.length_drop, hlen]; omega
    · exact tail _ (i + 1) G3 (fun _ _ h => h) ((x1.trans x2).trans x3) (by omega) (by omega) (.inr ⟨e, rfl⟩)
  · have hge : i = z.length := by have := of_decide_eq_false e; omega
    subst hge
    refine s_ret (ev_var rfl) fun G2 x2 => k G2 p ((xg.trans x1).trans x2) hp ?_
    have er : restT z z.length = [] := by
      unfold restT
      rw [List.drop_of_length_le (by omega), tokenize]; rfl
    rw [ht, er, List.append_nil]
    exact rows_ex (x1.trans x2) hT
end
end Ef

namespace Ef
open PySem PySem.Spec PyProof.Rows L2 Evl
/-! the reader -/
section
variable {K : PySem.W.Frag} {σ : L2.St} {H H1 H2 : Hp} {te : TE} {r a : Addr}
theorem But.refl : But r H H := fun _ _ _ h => h
theorem But.trans (x : But r H H1) (y : But r H1 H2) : But r H H2 := fun a o n h => y a o n (x a o n h)
theorem But.of (x : Evl.Ex H H1) : But r H H1 := fun a o _ h => x a o h
theorem But.ex (x : But r H H1) (h : H r = none) : Evl.Ex H H1 := fun a o q => x a o (ne_of_none q h) q
theorem But.upd {o : HO} (x : But r H H1) : But r H (upd H1 r o) := fun a u n h => by rw [upd_ne n]; exact x a u n h
theorem Bad.but {E : XK} {p : Int} (h : Bad K r H E p) (x : But r H H1) : Bad K r H1 E p := fun G d y hd => h G d (x.trans y) hd
theorem rows_but {l : Addr} {T : List (Int × Str)} {C dx : Addr} {fs : List (Str × V)} (hr : H r = some (.ins C dx fs)) (x : But r H H1) (h : Rows H l T) : Rows H1 l T := by
  obtain ⟨as, h1, h2, h3⟩ := h
  refine ⟨as, x _ _ (ne_of h1 hr (fun z => nomatch z)) h1, h2, fun i a t u v => ?_⟩
  have := h3 i a t u v
  exact x _ _ (ne_of this hr (fun z => nomatch z)) this
theorem Rdr.ex {l : Addr} {T : List (Int × Str)} {len : Int} {n : Nat} (e : Evl.Ex H H1) (h : Rdr K H r l T len n) : Rdr K H1 r l T len n := by
  obtain ⟨dx, h1, h2, h3⟩ := h
  exact ⟨dx, e _ _ h1, rows_ex e h2, h3⟩
theorem ev_fld {C dx : Addr} {fs : List (Str × V)} {v : V} {f : Str} (h : Ev te σ H (.ref a)) (ha : H a = some (.ins C dx fs)) (hc : Cls K C) (hn : NoAttr K C f) (hf : fs.lookup f = some v) : Ev (tFld K te f) σ H v := fun H1 e Q q =>
  h H1 e _ fun H2 e2 => ⟨a, C, dx, fs, v, rfl, e2 _ _ (e _ _ ha), hc, hn, hf, q H2 e2⟩
theorem ev_meth0 {C dx : Addr} {fs : List (Str × V)} {z : V} {m : Str} {sp : Sp} {E : XK} (h : Ev te σ H (.ref a)) (ha : H a = some (.ins C dx fs)) (hm : fs.lookup m = none) (hs : SpV sp [.ref a] H z) : Ev (tMeth C m sp [] E te tNil) σ H z := fun H1 e Q q =>
  h H1 e _ fun H2 e2 => ⟨a, dx, fs, rfl, e2 _ _ (e _ _ ha), hm, hs H2 (e.trans e2) Q (fun H3 e3 => q H3 (e2.trans e3)) E⟩
theorem ev_peek {l : Addr} {T : List (Int × Str)} {len : Int} {n : Nat} {E : XK} (h : Ev te σ H (.ref r)) (hr : Rdr K H r l T len n) : Ev (tMeth (He.ga K "Reader") "peek" (sp_peek K) [] E te tNil) σ H (.str (tkAt T n)) := by
  obtain ⟨dx, h1, h2⟩ := id hr
  exact ev_meth0 h h1 rfl fun H1 e Q q _ => ⟨r, l, T, len, n, rfl, hr.ex e, q⟩
theorem ev_position {l : Addr} {T : List (Int × Str)} {len : Int} {n : Nat} {E : XK} (h : Ev te σ H (.ref r)) (hr : Rdr K H r l T len n) : Ev (tMeth (He.ga K "Reader") "position" (sp_position K) [] E te tNil) σ H (.int (psAt T len n)) := by
  obtain ⟨dx, h1, h2⟩ := id hr
  exact ev_meth0 h h1 rfl fun H1 e Q q _ => ⟨r, l, T, len, n, rfl, hr.ex e, q⟩
theorem len_Reader___init__ {vs : List V} {Q : VK} {E : XK} (h : sp_Reader_init K vs H Q E) : vs.length = 2 := by
  obtain ⟨_, _, _, rfl, _⟩ := h; rfl
theorem len_Reader_peek {vs : List V} {Q : VK} {E : XK} (h : sp_peek K vs H Q E) : vs.length = 1 := by
  obtain ⟨_, _, _, _, _, rfl, _⟩ := h; rfl
theorem len_Reader_position {vs : List V} {Q : VK} {E : XK} (h : sp_position K vs H Q E) : vs.length = 1 := by
  obtain ⟨_, _, _, _, _, rfl, _⟩ := h; rfl
theorem len_Reader_skip {vs : List V} {Q : VK} {E : XK} (h : sp_skip K vs H Q E) : vs.length = 2 := by
  obtain ⟨_, _, _, _, _, _, rfl, _⟩ := h; rfl
theorem len_Reader_read_word {vs : List V} {Q : VK} {E : XK} (h : sp_read_one K fitsW vs H Q E) : vs.length = 1 := by
  obtain ⟨_, _, _, _, _, rfl, _⟩ := h; rfl
theorem len_Reader_read_class_name {vs : List V} {Q : VK} {E : XK} (h : sp_read_one K fitsC vs H Q E) : vs.length = 1 := by
  obtain ⟨_, _, _, _, _, rfl, _⟩ := h; rfl
theorem tokenize_len : ∀ (m pos : Nat) (l : List Nat), l.length ≤ m → (tokenize pos l).length ≤ l.length ∧ ∀ t ∈ tokenize pos l, t.2.length ≤ l.length
  | m, pos, [], _ => by rw [tokenize]; exact ⟨Nat.le_refl _, fun t h => nomatch h⟩
  | 0, pos, c :: l, h => by simp at h
  | m + 1, pos, c :: l, h => by
    have hm : l.length ≤ m := by simp at h; omega
    have d1 := (List.dropWhile_sublist (l := l) isLet).length_le
    have t1 := (List.takeWhile_sublist (l := l) isLet).length_le
    rw [tokenize, List.length_cons]
    split
    · have ih := tokenize_len m (pos + 1 + (l.takeWhile isLet).length) (l.dropWhile isLet) (by omega)
      refine ⟨by rw [List.length_cons]; omega, fun t ht => ?_⟩
      rcases List.mem_cons.mp ht with rfl | ht
      · show (c :: l.takeWhile isLet).length ≤ _
        rw [List.length_cons]; omega
      · have := ih.2 t ht; omega
    · have ih := tokenize_len m (pos + 1) l hm
      split
      · exact ⟨by omega, fun t ht => by have := ih.2 t ht; omega⟩
      · refine ⟨by rw [List.length_cons]; omega, fun t ht => ?_⟩
        rcases List.mem_cons.mp ht with rfl | ht
        · show 1 ≤ _; omega
        · have := ih.2 t ht; omega
theorem tokens_len (z : Str) : (tokens z).length ≤ z.length ∧ ∀ t ∈ tokens z, t.2.length ≤ z.length := by
  have hl : z.cps.toList.length = z.length := by rw [Array.length_toList]; rfl
  obtain ⟨h1, h2⟩ := tokenize_len z.length 0 z.cps.toList (by omega)
  refine ⟨by unfold tokens; rw [List.length_map]; omega, fun t ht => ?_⟩
  obtain ⟨u, hu, rfl⟩ := List.mem_map.mp ht
  have := h2 u hu
  show u.2.toArray.size ≤ _
  rw [List.size_toArray]; omega
theorem pure_Reader___init__ (hC : Cls K (He.ga K "Reader")) (n1 : NoAttr K (He.ga K "Reader") "tokens") (n2 : NoAttr K (He.ga K "Reader") "length") (n3 : NoAttr K (He.ga K "Reader") "passed") (vs : List V) (H : Hp) (Q : VK) (E : XK) (h : (sp_Reader_init K) vs H Q E) : t_Reader___init__ K { nx := fun _ H' => Q .non H', rt := Q } (start ["self", "text"] vs) H := by
  obtain ⟨r, dx, z, rfl, hl, hr, k⟩ := h
  refine ⟨_, rfl, z, rfl, hl, fun H1 l e1 hl1 hR => ⟨_, rfl, r, _, dx, [], rfl, e1 _ _ hr, hC, n1, by show 0 < 1000; decide, ?_⟩⟩
  refine ⟨_, rfl, z, rfl, sz_of hl, ⟨_, rfl, r, _, dx, _, rfl, upd_same, hC, n2, by show 1 < 1000; decide, ?_⟩⟩
  refine ⟨_, rfl, r, _, dx, _, rfl, upd_same, hC, n3, by show 2 < 1000; decide, ?_⟩
  have hb : But r H1 (upd (upd (upd H1 r (.ins (He.ga K "Reader") dx (putF "tokens" (.ref l) []))) r (.ins (He.ga K "Reader") dx (putF "length" (.int z.length) (putF "tokens" (.ref l) [])))) r (.ins (He.ga K "Reader") dx (putF "passed" (.int 0) (putF "length" (.int z.length) (putF "tokens" (.ref l) []))))) := ((But.refl.upd).upd).upd
  obtain ⟨tl1, tl2⟩ := tokens_len z
  exact k _ l ((But.of e1).trans hb) hl1 ⟨dx, upd_same, rows_but (e1 _ _ hr) hb hR, by omega, Nat.zero_le _, fun t ht => by have := tl2 t ht; omega⟩
theorem Rows.sql {l : Addr} {T : List (Int × Str)} (h : Rows H l T) : ∃ xs : List V, SqL K H l xs ∧ xs.length = T.length ∧ ∀ (n : Nat) t, T[n]? = some t → ∃ a, xs[n]? = some (.ref a) ∧ H a = some (.tup [.int t.1, .str t.2]) := by
  obtain ⟨as, h1, h2, h3⟩ := h
  refine ⟨_, sq_of h1, by rw [List.length_map, h2], fun n t ht => ?_⟩
  have hn := (List.getElem?_eq_some_iff.mp ht).1
  have e : as[n]? = some (as[n]'(by omega)) := List.getElem?_eq_getElem (by omega)
  exact ⟨_, by rw [List.getElem?_map, e]; rfl, h3 n _ t e ht⟩
theorem pure_Reader_peek (hC : Cls K (He.ga K "Reader")) (n1 : NoAttr K (He.ga K "Reader") "tokens") (n2 : NoAttr K (He.ga K "Reader") "passed") (vs : List V) (H : Hp) (Q : VK) (E : XK) (h : (sp_peek K) vs H Q E) : t_Reader_peek K { nx := fun _ H' => Q .non H', rt := Q } (start ["self"] vs) H := by
  obtain ⟨r, l, T, len, n, rfl, ⟨dx, hr, hR, h3, h4, h5⟩, k⟩ := h
  obtain ⟨xs, hx, hxl, hxa⟩ := hR.sql (K := K)
  have eP : Ev (tFld K (tVar 0) "passed") (start ["self"] [.ref r]) H (.int n) := ev_fld (ev_var rfl) hr hC n2 rfl
  have eT : Ev (tFld K (tVar 0) "tokens") (start ["self"] [.ref r]) H (.ref l) := ev_fld (ev_var rfl) hr hC n1 rfl
  refine s_ret (ev_if (et_test (ev_op eP (ev_lenSq eT (.inl hx)) rv_I0)) (fun e => ?_) (fun e => ?_)) k
  · have hn : n < T.length := by have := of_decide_eq_true e; omega
    have ht : T[n]? = some T[n] := List.getElem?_eq_getElem hn
    obtain ⟨a, ha, hb⟩ := hxa n _ ht
    have : tkAt T n = T[n].2 := by unfold tkAt; rw [ht]
    rw [this]
    exact ev_ixT (ev_ix eT eP hx (atI_nat ha)) ev_c (st_of hb) rfl
  · have hn : T.length ≤ n := by have := of_decide_eq_false e; omega
    have : tkAt T n = "" := by unfold tkAt; rw [List.getElem?_eq_none hn]
    rw [this]
    exact ev_c
theorem pure_Reader_position (hC : Cls K (He.ga K "Reader")) (n1 : NoAttr K (He.ga K "Reader") "tokens") (n3 : NoAttr K (He.ga K "Reader") "length") (n2 : NoAttr K (He.ga K "Reader") "passed") (vs : List V) (H : Hp) (Q : VK) (E : XK) (h : (sp_position K) vs H Q E) : t_Reader_position K { nx := fun _ H' => Q .non H', rt := Q } (start ["self"] vs) H := by
  obtain ⟨r, l, T, len, n, rfl, ⟨dx, hr, hR, h3, h4, h5⟩, k⟩ := h
  obtain ⟨xs, hx, hxl, hxa⟩ := hR.sql (K := K)
  have eP : Ev (tFld K (tVar 0) "passed") (start ["self"] [.ref r]) H (.int n) := ev_fld (ev_var rfl) hr hC n2 rfl
  have eT : Ev (tFld K (tVar 0) "tokens") (start ["self"] [.ref r]) H (.ref l) := ev_fld (ev_var rfl) hr hC n1 rfl
  refine s_ret (ev_if (et_test (ev_op eP (ev_lenSq eT (.inl hx)) rv_I0)) (fun e => ?_) (fun e => ?_)) k
  · have hn : n < T.length := by have := of_decide_eq_true e; omega
    have ht : T[n]? = some T[n] := List.getElem?_eq_getElem hn
    obtain ⟨a, ha, hb⟩ := hxa n _ ht
    have : psAt T len n = T[n].1 := by unfold psAt; rw [ht]
    rw [this]
    exact ev_ixT (ev_ix eT eP hx (atI_nat ha)) ev_c (st_of hb) rfl
  · have hn : T.length ≤ n := by have := of_decide_eq_false e; omega
    have : psAt T len n = len := by unfold psAt; rw [List.getElem?_eq_none hn]
    rw [this]
    exact ev_fld (ev_var rfl) hr hC n3 rfl
theorem tk_lt {T : List (Int × Str)} {n : Nat} (h : tkAt T n ≠ "") : n < T.length := by
  by_cases q : n < T.length
  · exact q
  · exact absurd (by unfold tkAt; rw [List.getElem?_eq_none (by omega)]) h
/-- one token more has been read -/
theorem s_passed {D : Ends} {l : Addr} {T : List (Int × Str)} {len : Int} {n : Nat} (hC : Cls K (He.ga K "Reader")) (n2 : NoAttr K (He.ga K "Reader") "passed") (h0 : σ[0]? = some (some (.ref r))) (hr : Rdr K H r l T len n) (hn : n < T.length) (k : ∀ H1, But r H H1 → Rdr K H1 r l T len (n + 1) → D.nx σ H1) :
    sFldAug K (tVar 0) (tC (.int 1)) rAdd "passed" D σ H := by
  obtain ⟨dx, h1, h2, h3, h4, h5⟩ := hr
  refine ⟨_, h0, r, _, dx, _, .int n, rfl, h1, hC, n2, rfl, _, _, rfl, rfl, dx, _, h1, by show 3 < 1000; decide, ?_⟩
  have hb : But r H (upd H r (.ins (He.ga K "Reader") dx (putF "passed" (.int ((n : Int) + 1)) [("tokens", .ref l), ("length", .int len), ("passed", .int n)]))) := But.refl.upd
  exact k _ hb ⟨dx, upd_same, rows_but h1 hb h2, h3, hn, h5⟩
theorem str_dec (a b : Str) : decide (V.str a = V.str b) = decide (a = b) := by
  by_cases h : a = b
  · subst h; simp
  · have : ¬ V.str a = V.str b := fun e => h (by injection e)
    rw [decide_eq_false h, decide_eq_false this]
theorem pure_Reader_skip (hC : Cls K (He.ga K "Reader")) (n2 : NoAttr K (He.ga K "Reader") "passed") (vs : List V) (H : Hp) (Q : VK) (E : XK) (h : (sp_skip K) vs H Q E) : t_Reader_skip K E { nx := fun _ H' => Q .non H', rt := Q } (start ["self", "wanted"] vs) H := by
  obtain ⟨r, l, T, len, n, w, rfl, hr, hw, k1, k2⟩ := h
  refine q_when (et_test (ev_op (ev_peek (ev_var rfl) hr) (ev_var rfl) (rv_ne rfl))) (fun e G x => ?_) (fun e G x => ?_)
  · rw [str_dec] at e
    have hne : tkAt T n ≠ w := by simpa using e
    exact s_raise (ea_cons (ev_position (ev_var rfl) (hr.ex x)) ea_nil) rfl (by show 1 ≤ 900; decide) fun H1 d y hd => k2 hne H1 d (But.of (x.trans y)) hd
  · rw [str_dec] at e
    have heq : tkAt T n = w := by simpa using e
    exact s_passed hC n2 rfl (hr.ex x) (tk_lt (by rw [heq]; exact hw)) fun H1 y hR => k1 heq H1 ((But.of x).trans y) hR
theorem tk_len {l : Addr} {T : List (Int × Str)} {len : Int} {n : Nat} (hr : Rdr K H r l T len n) : (tkAt T n).length ≤ 100000 := by
  obtain ⟨dx, h1, h2, h3, h4, h5⟩ := hr
  unfold tkAt
  split
  · rename_i t ht
    exact h5 t (List.mem_of_getElem? ht)
  · decide
theorem pure_Reader_read_word (hC : Cls K (He.ga K "Reader")) (n2 : NoAttr K (He.ga K "Reader") "passed") (vs : List V) (H : Hp) (Q : VK) (E : XK) (h : (sp_read_one K fitsW) vs H Q E) : t_Reader_read_word K E { nx := fun _ H' => Q .non H', rt := Q } (start ["self", "token"] vs) H := by
  obtain ⟨r, l, T, len, n, rfl, hr, k1, k2⟩ := h
  refine q_asg (ev_peek (ev_var rfl) hr) fun G0 x0 => ?_
  refine q_when (et_not (et_B (ev_call (ea_cons (ev_var rfl) ea_nil) fun H1 e Q q _ => ⟨_, rfl, tk_len hr, q⟩))) (fun e G x => ?_) (fun e G x => ?_)
  · exact s_raise (ea_cons (ev_position (ev_var rfl) (hr.ex (x0.trans x))) ea_nil) rfl (by show 1 ≤ 900; decide) fun H1 d y hd => k2 (by simpa using e) H1 d (But.of ((x0.trans x).trans y)) hd
  · have hf : fitsW (tkAt T n) = true := by simpa using e
    refine s_passed (D := { nx := _, rt := Q }) hC n2 rfl (hr.ex (x0.trans x)) (tk_lt fun q => ?_) fun H1 y hR => s_ret (ev_var rfl) fun H2 e2 => k1 hf H2 (((But.of (x0.trans x)).trans y).trans (But.of e2)) (hR.ex e2)
    rw [q] at hf
    exact absurd hf (by decide)
theorem pure_Reader_read_class_name (hC : Cls K (He.ga K "Reader")) (n2 : NoAttr K (He.ga K "Reader") "passed") (vs : List V) (H : Hp) (Q : VK) (E : XK) (h : (sp_read_one K fitsC) vs H Q E) : t_Reader_read_class_name K E { nx := fun _ H' => Q .non H', rt := Q } (start ["self", "token"] vs) H := by
  obtain ⟨r, l, T, len, n, rfl, hr, k1, k2⟩ := h
  refine q_asg (ev_peek (ev_var rfl) hr) fun G0 x0 => ?_
  refine q_when (et_not (et_B (ev_call (ea_cons (ev_var rfl) ea_nil) fun H1 e Q q _ => ⟨_, rfl, tk_len hr, q⟩))) (fun e G x => ?_) (fun e G x => ?_)
  · exact s_raise (ea_cons (ev_position (ev_var rfl) (hr.ex (x0.trans x))) ea_nil) rfl (by show 1 ≤ 900; decide) fun H1 d y hd => k2 (by simpa using e) H1 d (But.of ((x0.trans x).trans y)) hd
  · have hf : fitsC (tkAt T n) = true := by simpa using e
    refine s_passed (D := { nx := _, rt := Q }) hC n2 rfl (hr.ex (x0.trans x)) (tk_lt fun q => ?_) fun H1 y hR => s_ret (ev_var rfl) fun H2 e2 => k1 hf H2 (((But.of (x0.trans x)).trans y).trans (But.of e2)) (hR.ex e2)
    rw [q] at hf
    exact absurd hf (by decide)
end
end Ef

namespace Ef
open PySem PySem.Spec PyProof.Rows L2 Evl
/-! data kept, reading functions -/
section
variable {K : PySem.W.Frag} {σ : L2.St} {H H1 H2 : Hp} {te : TE} {r a : Addr}
def KT (K : PySem.W.Frag) (H H1 : Hp) : Prop := ∀ a xs, SqT K H a xs → SqT K H1 a xs
mutual
theorem Stp.mv (k : KT K H H1) : ∀ (s : Stp) (v : V), Dp K H v s.dat → Dp K H1 v s.dat
  | .word p n, v, h => by
    rw [Stp.dat] at h ⊢
    cases h with
    | tup hs ha =>
      cases ha with
      | cons h1 h2 =>
        cases h1
        cases h2 with
        | cons h1 h2 =>
          cases h1
          cases h2
          exact .tup (k _ _ hs) (.cons (.str _) (.cons (.str _) .nil))
  | .bare p, v, h => by
    rw [Stp.dat] at h ⊢
    cases h with
    | tup hs ha =>
      cases ha with
      | cons h1 h2 =>
        cases h1
        cases h2
        exact .tup (k _ _ hs) (.cons (.str _) .nil)
  | .loop b, v, h => by
    rw [Stp.dat] at h ⊢
    cases h with
    | tup hs ha =>
      cases ha with
      | cons h1 h2 =>
        cases h1
        cases h2 with
        | cons h1 h2 =>
          cases h1 with
          | tup ht hb =>
            cases h2
            exact .tup (k _ _ hs) (.cons (.str _) (.cons (.tup (k _ _ ht) (Bdy.mv k b _ hb)) .nil))
  | .cond n b c, v, h => by
    rw [Stp.dat] at h ⊢
    cases h with
    | tup hs ha =>
      cases ha with
      | cons h1 h2 =>
        cases h1
        cases h2 with
        | cons h1 h2 =>
          cases h1
          cases h2 with
          | cons h1 h2 =>
            cases h1 with
            | tup ht hb =>
              cases h2 with
              | cons h1 h2 =>
                cases h1 with
                | tup ht2 hb2 =>
                  cases h2
                  exact .tup (k _ _ hs) (.cons (.str _) (.cons (.str _) (.cons (.tup (k _ _ ht) (Bdy.mv k b _ hb)) (.cons (.tup (k _ _ ht2) (Bdy.mv k c _ hb2)) .nil))))
  | .tri b c, v, h => by
    rw [Stp.dat] at h ⊢
    cases h with
    | tup hs ha =>
      cases ha with
      | cons h1 h2 =>
        cases h1
        cases h2 with
        | cons h1 h2 =>
          cases h1 with
          | tup ht hb =>
            cases h2 with
            | cons h1 h2 =>
              cases h1 with
              | tup ht2 hb2 =>
                cases h2
                exact .tup (k _ _ hs) (.cons (.str _) (.cons (.tup (k _ _ ht) (Bdy.mv k b _ hb)) (.cons (.tup (k _ _ ht2) (Bdy.mv k c _ hb2)) .nil)))
  | .alt bs, v, h => by
    rw [Stp.dat] at h ⊢
    cases h with
    | tup hs ha =>
      cases ha with
      | cons h1 h2 =>
        cases h1
        cases h2 with
        | cons h1 h2 =>
          cases h1 with
          | tup ht hb =>
            cases h2
            exact .tup (k _ _ hs) (.cons (.str _) (.cons (.tup (k _ _ ht) (Bds.mv k bs _ hb)) .nil))
theorem Bdy.mv (k : KT K H H1) : ∀ (b : Bdy) (vs : List V), DpAll K H vs b.dats → DpAll K H1 vs b.dats
  | .nil, vs, h => by
    rw [Bdy.dats] at h ⊢
    cases h
    exact .nil
  | .cons s b, vs, h => by
    rw [Bdy.dats] at h ⊢
    cases h with
    | cons h1 h2 => exact .cons (Stp.mv k s _ h1) (Bdy.mv k b _ h2)
theorem Bds.mv (k : KT K H H1) : ∀ (b : Bds) (vs : List V), DpAll K H vs b.dats → DpAll K H1 vs b.dats
  | .nil, vs, h => by
    rw [Bds.dats] at h ⊢
    cases h
    exact .nil
  | .cons b bs, vs, h => by
    rw [Bds.dats] at h ⊢
    cases h with
    | cons h1 h2 =>
      cases h1 with
      | tup ht hb => exact .cons (.tup (k _ _ ht) (Bdy.mv k b _ hb)) (Bds.mv k bs _ h2)
end
theorem Bdy.mvt (k : KT K H H1) (b : Bdy) {v : V} (h : Dp K H v (.tuple b.dats)) : Dp K H1 v (.tuple b.dats) := by
  cases h with
  | tup ht hb => exact .tup (k _ _ ht) (Bdy.mv k b _ hb)
theorem KT.of (e : Evl.Ex H H1) : KT K H H1 := fun _ _ h => ex_t e h
theorem But.kt {C dx : Addr} {fs : List (Str × V)} (x : But r H H1) (hr : H r = some (.ins C dx fs)) : KT K H H1 := fun a xs h => by
  have q : ∀ o, H a = some o → (∀ D y z, o ≠ .ins D y z) → H1 a = some o := fun o ho hn => x a o (fun e => by subst e; rw [hr] at ho; exact hn _ _ _ (Option.some.inj ho).symm) ho
  rcases h with (h | ⟨o, h⟩) | h
  · exact .inl (.inl (q _ h (fun _ _ _ e => nomatch e)))
  · exact .inl (.inr ⟨o, q _ h (fun _ _ _ e => nomatch e)⟩)
  · exact .inr h
theorem Rdr.kt {l : Addr} {T : List (Int × Str)} {len : Int} {n : Nat} (hr : Rdr K H r l T len n) (x : But r H H1) : KT K H H1 := by
  obtain ⟨dx, h1, _⟩ := hr
  exact x.kt h1
theorem Rdr.ne {l : Addr} {T : List (Int × Str)} {len : Int} {n : Nat} {p : Addr} {xs : List V} (hr : Rdr K H r l T len n) (hp : H p = some (.lst xs)) : p ≠ r := by
  obtain ⟨dx, h1, _⟩ := hr
  exact ne_of hp h1 (fun z => nomatch z)
theorem but_mut {p : Addr} {o : HO} (x : But r H H1) (hp : H p = none) : But r H (upd H1 p o) := fun a u n h => by
  rw [upd_ne (ne_of_none h hp)]; exact x a u n h
theorem Rdr.mut {l : Addr} {T : List (Int × Str)} {len : Int} {n : Nat} {p : Addr} {xs ys : List V} (hr : Rdr K H r l T len n) (hp : H p = some (.lst xs)) (hl : p ≠ l) : Rdr K (upd H p (.lst ys)) r l T len n := by
  have hn := hr.ne hp
  obtain ⟨dx, h1, ⟨as, g1, g2, g3⟩, h3⟩ := hr
  refine ⟨dx, by rw [upd_ne hn.symm]; exact h1, ⟨as, by rw [upd_ne hl.symm]; exact g1, g2, fun i a t u v => ?_⟩, h3⟩
  have z := g3 i a t u v
  rw [upd_ne (ne_of z hp (fun z => nomatch z))]; exact z
theorem Rdr.rows {l : Addr} {T : List (Int × Str)} {len : Int} {n : Nat} {p : Addr} (hr : Rdr K H r l T len n) (hp : H p = none) : p ≠ l := by
  obtain ⟨dx, h1, ⟨as, g1, _⟩, h3⟩ := hr
  exact fun e => by subst e; rw [hp] at g1; cases g1
theorem q_skip {D : Ends} {tz : TS} {tw : TE} {E : XK} {l : Addr} {T : List (Int × Str)} {len : Int} {n : Nat} {w : Str} {i : Nat} (h0 : σ[i]? = some (some (.ref r))) (hr : Rdr K H r l T len n) (ht : Ev tw σ H (.str w)) (hw : w ≠ "") (k1 : tkAt T n = w → ∀ H1, But r H H1 → Rdr K H1 r l T len (n + 1) → tz D σ H1) (k2 : tkAt T n ≠ w → Bad K r H E (psAt T len n)) :
    tSeq (tDrop (tMeth (He.ga K "Reader") "skip" (sp_skip K) [] E (tVar i) (tCons tw tNil))) tz D σ H := by
  obtain ⟨dx, h1, _⟩ := id hr
  refine ⟨_, h0, r, dx, _, rfl, h1, rfl, ht H (Evl.Ex.refl H) _ fun G e => ⟨r, l, T, len, n, w, rfl, hr.ex e, hw, fun q H1 x y => k1 q H1 ((But.of e).trans x) y, fun q => (k2 q).but (But.of e)⟩⟩
theorem c_block {l : Addr} {T : List (Int × Str)} {len : Int} {n dp i : Nat} {Q : VK} {E : XK} {o : Out Bdy} (h0 : σ[0]? = some (some (.ref r))) (hi : σ[i]? = some (some (.int (dp : Int)))) (hd : dp ≤ 6) (hr : Rdr K H r l T len n) (hR : RBlk T len dp n o) (k : Ends2 K r l T len H Q E (fun b : Bdy => .tuple b.dats) o) :
    tCall (sp_block K dp) [] E (tCons (tVar 0) (tCons (tVar i) tNil)) σ H Q := ⟨_, h0, _, hi, hd, r, l, T, len, n, o, rfl, hr, hR, k⟩
theorem len_read_block {dp : Nat} {vs : List V} {Q : VK} {E : XK} (h : sp_block K dp vs H Q E) : vs.length = 2 := by
  obtain ⟨_, r, l, T, len, n, o, rfl, _⟩ := h; rfl
theorem len_read_either {dp : Nat} {vs : List V} {Q : VK} {E : XK} (h : sp_either K dp vs H Q E) : vs.length = 2 := by
  obtain ⟨_, r, l, T, len, n, o, rfl, _⟩ := h; rfl
theorem len_read_nested {dp : Nat} {vs : List V} {Q : VK} {E : XK} (h : sp_nested K dp vs H Q E) : vs.length = 3 := by
  obtain ⟨_, r, w, l, T, len, n, o, rfl, _⟩ := h; rfl
theorem len_read_step {dp : Nat} {vs : List V} {Q : VK} {E : XK} (h : sp_step K dp vs H Q E) : vs.length = 2 := by
  obtain ⟨_, r, l, T, len, n, o, rfl, _⟩ := h; rfl
theorem len_read_body {dp : Nat} {vs : List V} {Q : VK} {E : XK} (h : sp_body K dp vs H Q E) : vs.length = 2 := by
  obtain ⟨_, r, l, T, len, n, o, rfl, _⟩ := h; rfl
theorem len_read_steps {vs : List V} {Q : VK} {E : XK} (h : sp_read_steps K vs H Q E) : vs.length = 1 := by
  obtain ⟨z, o, rfl, _⟩ := h; rfl
theorem int_dec (a b : Int) : decide (V.int a = V.int b) = decide (a = b) := by
  by_cases h : a = b
  · subst h; simp
  · have : ¬ V.int a = V.int b := fun e => h (by injection e)
    rw [decide_eq_false h, decide_eq_false this]
theorem pure_read_block {dp : Nat} (vs : List V) (H : Hp) (Q : VK) (E : XK) (h : (sp_block K dp) vs H Q E) : t_read_block K E dp { nx := fun _ H' => Q .non H', rt := Q } (start ["reader", "depth", "body"] vs) H := by
  obtain ⟨hd, r, l, T, len, n, o, rfl, hr, hR, k⟩ := h
  by_cases h6 : dp = 6
  · subst h6
    have ho : o = .bad (psAt T len n) := by
      cases hR with
      | deep => rfl
      | opn h => exact absurd rfl h
      | body h => exact absurd rfl h
      | cls h => exact absurd rfl h
      | ok h => exact absurd rfl h
    subst ho
    refine q_when (et_is (et_test (ev_op (ev_var rfl) ev_c (rv_eq rfl))) (b := true) (by decide)) (fun _ G x => ?_) (fun e => by cases e)
    exact s_raise (ea_cons (ev_position (ev_var rfl) (hr.ex x)) ea_nil) rfl (by show 1 ≤ 900; decide) fun H1 d y hd => k H1 d (But.of (x.trans y)) hd
  · refine q_when (et_is (et_test (ev_op (ev_var rfl) ev_c (rv_eq rfl))) (b := false) (by rw [int_dec]; exact decide_eq_false (by omega))) (fun e => by cases e) (fun _ G x => ?_)
    refine q_skip rfl (hr.ex x) ev_c (by decide) (fun q G1 y1 r1 => ?_) (fun q => ?_)
    · have b1 : But r H G1 := (But.of x).trans y1
      have call : ∀ (o' : Out Bdy) (kk : Nat) (Q' : VK), RBody T len (dp + 1) (n + 1) kk o' → Ends2 K r l T len G1 Q' E (fun b : Bdy => .tuple b.dats) o' → tCall (sp_body K (dp + 1)) [] E (tCons (tVar 0) (tCons (tOp rAddI (tVar 1) (tC (.int 1))) tNil)) (start ["reader", "depth", "body"] [.ref r, .int dp]) G1 Q' :=
        fun o' kk Q' hB hE => ⟨_, rfl, _, rfl, _, _, rfl, rfl, by omega, r, l, T, len, n + 1, o', rfl, r1, ⟨kk, hB⟩, hE⟩
      cases hR with
      | deep => exact absurd rfl h6
      | opn h1 h2 => exact absurd q h2
      | body h1 h2 h3 => exact call _ _ _ h3 (Bad.but k b1)
      | cls h1 h2 h3 h4 =>
        refine call _ _ _ h3 fun v G2 y2 r2 hD => ?_
        exact q_skip rfl r2 ev_c (by decide) (fun q => absurd q h4) (fun _ => Bad.but k (b1.trans y2))
      | ok h1 h2 h3 h4 =>
        refine call _ _ _ h3 fun v G2 y2 r2 hD => ?_
        refine q_skip rfl r2 ev_c (by decide) (fun q G3 y3 r3 => ?_) (fun z => absurd h4 z)
        exact s_ret (ev_var rfl) fun G4 x4 => k v G4 (((b1.trans y2).trans y3).trans (But.of x4)) (r3.ex x4) (Bdy.mvt (r2.kt (y3.trans (But.of x4))) _ hD)
    · cases hR with
      | deep => exact absurd rfl h6
      | opn h1 h2 => exact Bad.but k (But.of x)
      | body h1 h2 h3 => exact absurd h2 q
      | cls h1 h2 h3 h4 => exact absurd h2 q
      | ok h1 h2 h3 h4 => exact absurd h2 q
end
end Ef

namespace Ef
open PySem PySem.Spec PyProof.Rows L2 Evl
section
variable {K : PySem.W.Frag} {σ : L2.St} {H H1 H2 G : Hp} {te : TE} {r l p : Addr} {T : List (Int × Str)} {len : Int} {dp : Nat}
theorem mvS (k : KT K H H1) : ∀ (ss : List Stp) (vs : List V), DpAll K H vs (ss.map Stp.dat) → DpAll K H1 vs (ss.map Stp.dat)
  | [], vs, h => by
    rw [List.map_nil] at h ⊢
    cases h
    exact .nil
  | s :: ss, vs, h => by
    rw [List.map_cons] at h ⊢
    cases h with
    | cons h1 h2 => exact .cons (Stp.mv k s _ h1) (mvS k ss _ h2)
theorem mvB (k : KT K H H1) : ∀ (ss : List Bdy) (vs : List V), DpAll K H vs (ss.map fun b => PyData.tuple b.dats) → DpAll K H1 vs (ss.map fun b => PyData.tuple b.dats)
  | [], vs, h => by
    rw [List.map_nil] at h ⊢
    cases h
    exact .nil
  | s :: ss, vs, h => by
    rw [List.map_cons] at h ⊢
    cases h with
    | cons h1 h2 => exact .cons (Bdy.mvt k s h1) (mvB k ss _ h2)
theorem dp_snoc {v : V} {d : PyData} (hv : Dp K H v d) : ∀ (ds : List PyData) (xs : List V), DpAll K H xs ds → DpAll K H (xs ++ [v]) (ds ++ [d])
  | [], _, h => by cases h; exact .cons hv .nil
  | e :: ds, _, h => by
    cases h with
    | cons h1 h2 => exact .cons h1 (dp_snoc hv ds _ h2)
theorem kt_mut {xs ys : List V} (hp : H p = some (.lst xs)) : KT K H (upd H p (.lst ys)) := fun a zs h => by
  have q : ∀ o, H a = some o → (∀ z, o ≠ .lst z) → upd H p (.lst ys) a = some o := fun o ho hn => by
    rw [upd_ne (fun e => by subst e; rw [hp] at ho; exact hn _ (Option.some.inj ho).symm)]; exact ho
  rcases h with (h | ⟨o, h⟩) | h
  · exact .inl (.inl (q _ h (fun _ e => nomatch e)))
  · exact .inl (.inr ⟨o, q _ h (fun _ e => nomatch e)⟩)
  · exact .inr h
theorem s_appC {D : Ends} {i : Nat} {xs : List V} (hp : σ[i]? = some (some (.ref p))) (hG : G p = some (.lst xs)) (h : te σ G fun v G2 => rAppend (.ref p) [v] G2 fun _ H1 => D.nx σ H1) : tDrop (tBM K "list" rAppend (tVar i) (tCons te tNil)) D σ G :=
  ⟨_, hp, Or.inl ⟨rfl, xs, sq_of hG⟩, h⟩
theorem fresh_but {n : Nat} (x : But r H H1) (hr : Rdr K H r l T len n) (hr1 : H1 r ≠ none) (hp : H1 p = none) : H p = none := by
  by_cases e : p = r
  · subst e; exact absurd hp hr1
  · cases q : H p with
    | none => rfl
    | some o => rw [x p o e q] at hp; cases hp
theorem Rdr.some {n : Nat} (hr : Rdr K H r l T len n) : H r ≠ none := by
  obtain ⟨dx, h1, _⟩ := hr
  rw [h1]; exact fun z => nomatch z
theorem tseq_as {a b c : TS} {D : Ends} (h : tSeq a b { D with nx := c D } σ H) : tSeq a (tSeq b c) D σ H := h
/-! read_either -/
def AltInv (K : PySem.W.Frag) (r l : Addr) (T : List (Int × Str)) (len : Int) (dp : Nat) (H : Hp) (Q : VK) (E : XK) (p : Addr) (m : Nat) (G : Hp) : Prop := ∃ (n : Nat) (o : Out Bds) (bl : List Bdy) (xs : List V), H p = none ∧ p ≠ l ∧ But r H G ∧ Rdr K G r l T len n ∧ G p = some (.lst xs) ∧ DpAll K G xs (bl.map fun b : Bdy => PyData.tuple b.dats) ∧ xs.length ≤ n + 1 ∧ RMore T len dp n m o ∧
  (∀ bs n2, o = .good bs n2 → ∀ v H', But r H H' → Rdr K H' r l T len n2 → Dp K H' v (.tuple (bl.map (fun b : Bdy => PyData.tuple b.dats) ++ bs.dats)) → Q v H') ∧ ∀ q, o = .bad q → Bad K r H E q
theorem alt_turn {Q : VK} {E : XK} {D : Ends} {m : Nat} (hd : dp ≤ 6) (h : AltInv K r l T len dp H Q E p (m + 1) G) (k : ∀ G', AltInv K r l T len dp H Q E p m G' → D.nx [some (.ref r), some (.int dp), some (.ref p)] G') :
    tSeq (tDrop (tMeth (He.ga K "Reader") "skip" (sp_skip K) [] E (tVar 0) (tCons (tC (.str "or")) tNil))) (tDrop (tBM K "list" rAppend (tVar 2) (tCons (tCall (sp_block K dp) [] E (tCons (tVar 0) (tCons (tVar 1) tNil))) tNil))) D [some (.ref r), some (.int dp), some (.ref p)] G := by
  obtain ⟨n, o, bl, xs, hp, hpl, hb, hr, hG, hD, hx, hM, k1, k2⟩ := h
  have ht : tkAt T n = "or" := by cases hM <;> assumption
  have hlt : n < T.length := tk_lt (by rw [ht]; decide)
  have hT : T.length ≤ 100000 := by obtain ⟨dx, _, _, h3, _⟩ := id hr; exact h3
  refine q_skip rfl hr ev_c (by decide) (fun _ G1 y1 r1 => ?_) (fun z => absurd ht z)
  have hG1 : G1 p = some (.lst xs) := y1 _ _ (hr.ne hG) hG
  have kt1 : KT K G G1 := hr.kt y1
  refine s_appC rfl hG1 ?_
  cases hM with
  | fail _ h1 => exact c_block rfl rfl hd r1 h1 (Bad.but (k2 _ rfl) (hb.trans y1))
  | @next _ _ n1 n2 _ b bs _ h1 h2 h3 =>
    refine c_block rfl rfl hd r1 h1 fun v G2 y2 r2 hv => ⟨p, xs, v, rfl, rfl, y2 _ _ (r1.ne hG1) hG1, Nat.lt_of_le_of_lt (show xs.length ≤ 100000 by omega) (by decide), k _ ?_⟩
    have hG2 : G2 p = some (.lst xs) := y2 _ _ (r1.ne hG1) hG1
    refine ⟨_, _, bl ++ [b], _, hp, hpl, but_mut ((hb.trans y1).trans y2) hp, r2.mut hG2 hpl, upd_same, ?_, ?_, h3, ?_, fun q e => by cases e⟩
    · rw [List.map_append]
      exact dp_snoc (Bdy.mvt (kt_mut hG2) _ hv) _ _ (mvB (kt_mut hG2) _ _ (mvB (r1.kt y2) _ _ (mvB kt1 _ _ hD)))
    · rw [List.length_append, List.length_singleton]; omega
    · intro bs n2 e v' H' z1 z2 z3
      cases e
      refine k1 _ _ rfl v' H' z1 z2 ?_
      rw [Bds.dats]
      rw [List.map_append, List.append_assoc] at z3
      exact z3
  | @late _ _ n1 _ b q _ h1 h2 h3 =>
    refine c_block rfl rfl hd r1 h1 fun v G2 y2 r2 hv => ⟨p, xs, v, rfl, rfl, y2 _ _ (r1.ne hG1) hG1, Nat.lt_of_le_of_lt (show xs.length ≤ 100000 by omega) (by decide), k _ ?_⟩
    have hG2 : G2 p = some (.lst xs) := y2 _ _ (r1.ne hG1) hG1
    refine ⟨_, _, bl ++ [b], _, hp, hpl, but_mut ((hb.trans y1).trans y2) hp, r2.mut hG2 hpl, upd_same, ?_, ?_, h3, (fun bs n2 e => by cases e), k2⟩
    · rw [List.map_append]
      exact dp_snoc (Bdy.mvt (kt_mut hG2) _ hv) _ _ (mvB (kt_mut hG2) _ _ (mvB (r1.kt y2) _ _ (mvB kt1 _ _ hD)))
    · rw [List.length_append, List.length_singleton]; omega
theorem AltInv.ex {Q : VK} {E : XK} {m : Nat} (e : Evl.Ex G H1) (h : AltInv K r l T len dp H Q E p m G) : AltInv K r l T len dp H Q E p m H1 := by
  obtain ⟨n, o, bl, xs, hp, hpl, hb, hr, hG, hD, hx, hM, k1, k2⟩ := h
  exact ⟨n, o, bl, xs, hp, hpl, hb.trans (But.of e), hr.ex e, e _ _ hG, mvB (KT.of e) _ _ hD, hx, hM, k1, k2⟩
theorem pure_read_either {dp : Nat} (vs : List V) (H : Hp) (Q : VK) (E : XK) (h : (sp_either K dp) vs H Q E) : t_read_either K E dp { nx := fun _ H' => Q .non H', rt := Q } (start ["reader", "depth", "blocks"] vs) H := by
  obtain ⟨hd, r, l, T, len, n, o, rfl, hr, hR, k⟩ := h
  have loop : ∀ (p : Addr) (m : Nat) (G : Hp), AltInv K r l T len dp H Q E p m G → tSeq (tWhile (tTest (tOp rEq (tMeth (He.ga K "Reader") "peek" (sp_peek K) [] E0 (tVar 0) tNil) (tC (.str "or")))) (tSeq (tDrop (tMeth (He.ga K "Reader") "skip" (sp_skip K) [] E (tVar 0) (tCons (tC (.str "or")) tNil))) (tDrop (tBM K "list" rAppend (tVar 2) (tCons (tCall (sp_block K dp) [] E (tCons (tVar 0) (tCons (tVar 1) tNil))) tNil))))) (tRet (tCB (rTupOf K) (tCons (tVar 2) tNil))) { nx := fun _ H' => Q .non H', rt := Q } [some (.ref r), some (.int dp), some (.ref p)] G := by
    intro p m G hI
    refine q_while (fun m σ G => σ = [some (.ref r), some (.int dp), some (.ref p)] ∧ AltInv K r l T len dp H Q E p m G) m ⟨rfl, hI⟩ ?_
    rintro m σ G ⟨rfl, hI⟩
    obtain ⟨n, o, bl, xs, hp, hpl, hb, hr, hG, hD, hx, hM, k1, k2⟩ := id hI
    refine ⟨decide (tkAt T n = "or"), et_is (et_test (ev_op (ev_peek (ev_var rfl) hr) ev_c (rv_eq rfl))) (str_dec _ _), fun e G1 x1 => ?_, fun e G1 x1 => ?_⟩
    · have ht := of_decide_eq_true e
      cases m with
      | zero =>
        cases hM with
        | stop h => exact absurd ht h
      | succ m => exact ⟨fun σ2 H2 => σ2 = [some (.ref r), some (.int dp), some (.ref p)] ∧ AltInv K r l T len dp H Q E p m H2, fun σ2 H2 z => ⟨m, by omega, z⟩, alt_turn hd (hI.ex x1) fun G' z => ⟨rfl, z⟩⟩
    · have ht := of_decide_eq_false e
      cases hM with
      | stop h =>
        refine ⟨_, rfl, p, xs, rfl, .inl ⟨sq_of (x1 _ _ hG), fun q hq => k1 _ _ rfl _ _ ((hb.trans (But.of x1)).trans (But.of (Evl.Ex.new hq))) (hr.ex (x1.trans (Evl.Ex.new hq))) ?_⟩⟩
        rw [Bds.dats, List.append_nil]
        exact .tup (st_of upd_same) (mvB (KT.of (x1.trans (Evl.Ex.new hq))) _ _ hD)
      | fail h => exact absurd h ht
      | next h => exact absurd h ht
      | late h => exact absurd h ht
  cases hR with
  | first h1 => exact c_block rfl rfl hd hr h1 k
  | noor h1 h2 =>
    refine c_block rfl rfl hd hr h1 fun v G1 y1 r1 hv => ⟨by show 1 ≤ sizeLine; decide, fun p hp => ?_⟩
    exact q_skip rfl (r1.ex (Evl.Ex.new hp)) ev_c (by decide) (fun q => absurd q h2) (fun _ => Bad.but k (y1.trans (But.of (Evl.Ex.new hp))))
  | @more _ _ n1 _ b q h1 h2 h3 =>
    refine c_block rfl rfl hd hr h1 fun v G1 y1 r1 hv => ⟨by show 1 ≤ sizeLine; decide, fun p hp => ?_⟩
    refine tseq_as (alt_turn hd (Q := Q) (H := H) ⟨_, _, [b], [v], fresh_but y1 hr r1.some hp, r1.rows hp, y1.trans (But.of (Evl.Ex.new hp)), r1.ex (Evl.Ex.new hp), upd_same, .cons (Bdy.mvt (KT.of (Evl.Ex.new hp)) _ hv) .nil, by show 1 ≤ _; omega, h3, (fun bs n2 e => by cases e), fun q e => ?_⟩ fun G' z => loop p _ _ z)
    cases e
    exact k
  | @ok _ _ n1 n2 _ b bs h1 h2 h3 =>
    refine c_block rfl rfl hd hr h1 fun v G1 y1 r1 hv => ⟨by show 1 ≤ sizeLine; decide, fun p hp => ?_⟩
    refine tseq_as (alt_turn hd (Q := Q) (H := H) ⟨_, _, [b], [v], fresh_but y1 hr r1.some hp, r1.rows hp, y1.trans (But.of (Evl.Ex.new hp)), r1.ex (Evl.Ex.new hp), upd_same, .cons (Bdy.mvt (KT.of (Evl.Ex.new hp)) _ hv) .nil, by show 1 ≤ _; omega, h3, (fun bs n2 e v' H' z1 z2 z3 => ?_), fun q e => by cases e⟩ fun G' z => loop p _ _ z)
    cases e
    refine k v' H' z1 z2 ?_
    show Dp K H' v' (.tuple (Bds.dats (.cons b bs)))
    rw [Bds.dats]
    exact z3
end
end Ef

namespace Ef
open PySem PySem.Spec PyProof.Rows L2 Evl
section
variable {K : PySem.W.Frag} {σ : L2.St} {H H1 H2 G : Hp} {te : TE} {r l p : Addr} {T : List (Int × Str)} {len : Int} {dp : Nat}
theorem et_strEq {a b : Str} {ta tb : TE} (ha : Ev ta σ H (.str a)) (hb : Ev tb σ H (.str b)) : EvT (tTest (tOp rEq ta tb)) σ H (decide (a = b)) := et_is (et_test (ev_op ha hb (rv_eq rfl))) (str_dec _ _)
theorem x_when {i : Nat} {a b : Str} {tu tz : TS} {D : Ends} (h : σ[i]? = some (some (.str a))) (h1 : a = b → tu { D with nx := tz D } σ H) (h2 : a ≠ b → tz D σ H) : tSeq (tIfS (tTest (tOp rEq (tVar i) (tC (.str b)))) tu tNext) tz D σ H := by
  refine ⟨_, h, rfl, _, rfl, ?_⟩
  by_cases e : a = b
  · rw [str_dec, decide_eq_true e]; exact h1 e
  · rw [str_dec, decide_eq_false e]; exact h2 e
theorem x_in {i : Nat} {C : Addr} {a : Str} {ys : List Str} {tu tz : TS} {D : Ends} (h : σ[i]? = some (some (.str a))) (hC : SqT K H C (ys.map V.str)) (h1 : a ∈ ys → tu D σ H) (h2 : a ∉ ys → tz D σ H) : tIfS (tTest (tOp (rIn K false) (tVar i) (tC (.ref C)))) tu tz D σ H := by
  refine ⟨_, h, C, _, rfl, .inr hC, rfl, flat_strs ys, _, rfl, ?_⟩
  rw [inV_strs]
  by_cases e : a ∈ ys
  · rw [decide_eq_true e]; exact h1 e
  · rw [decide_eq_false e]; exact h2 e
theorem pure_read_nested {dp : Nat} (vs : List V) (H : Hp) (Q : VK) (E : XK) (h : (sp_nested K dp) vs H Q E) : t_read_nested K E dp { nx := fun _ H' => Q .non H', rt := Q } (start ["reader", "word", "depth", "first", "name"] vs) H := by
  obtain ⟨hd, r, w, l, T, len, n, o, rfl, hr, hR, k⟩ := h
  -- the end: a tuple of the parts
  have fin : ∀ (s : Stp) (n2 : Nat) (xs : List V) (G : Hp), Ends2 K r l T len H Q E Stp.dat (.good s n2) → But r H G → Rdr K G r l T len n2 → xs.length ≤ 5 → (∀ a G', KT K G G' → SqT K G' a xs → Dp K G' (.ref a) s.dat) → xs.length ≤ sizeLine ∧ ∀ a, G a = none → Q (.ref a) (upd G a (.tup xs)) := fun s n2 xs G k hb hr hl hx =>
    ⟨Nat.le_trans hl (by decide), fun a ha => k _ _ (hb.trans (But.of (Evl.Ex.new ha))) (hr.ex (Evl.Ex.new ha)) (hx a _ (KT.of (Evl.Ex.new ha)) (st_of upd_same))⟩
  -- if
  have cond : RNest T len dp "if" n o → w = "if" → tSeq (tAsg (tMeth (He.ga K "Reader") "read_word" (sp_read_one K fitsW) [] E (tVar 0) tNil) (gName 4)) (tSeq (tAsg (tCall (sp_block K dp) [] E (tCons (tVar 0) (tCons (tVar 2) tNil))) (gName 3)) (tSeq (tDrop (tMeth (He.ga K "Reader") "skip" (sp_skip K) [] E (tVar 0) (tCons (tC (.str "else")) tNil))) (tRet (tTup (tCons (tVar 1) (tCons (tVar 4) (tCons (tVar 3) (tCons (tCall (sp_block K dp) [] E (tCons (tVar 0) (tCons (tVar 2) tNil))) tNil)))))))) { nx := fun _ H' => Q .non H', rt := Q } (start ["reader", "word", "depth", "first", "name"] [.ref r, .str "if", .int dp]) H := by
    intro hR _
    obtain ⟨dx, h1, _⟩ := id hr
    refine ⟨_, rfl, r, dx, _, rfl, h1, rfl, r, l, T, len, n, rfl, hr, fun hf G1 y1 r1 => ?_, fun hf => ?_⟩
    · cases hR with
      | cond0 q => rw [q] at hf; cases hf
      | cond1 q h2 => exact c_block rfl rfl hd r1 h2 (Bad.but k y1)
      | cond2 q h2 h3 => exact c_block rfl rfl hd r1 h2 fun v G2 y2 r2 hv => q_skip rfl r2 ev_c (by decide) (fun z => absurd z h3) fun _ => Bad.but k (y1.trans y2)
      | cond3 q h2 h3 h4 => exact c_block rfl rfl hd r1 h2 fun v G2 y2 r2 hv => q_skip rfl r2 ev_c (by decide) (fun _ G3 y3 r3 => ⟨_, rfl, _, rfl, _, rfl, c_block rfl rfl hd r3 h4 (Bad.but k ((y1.trans y2).trans y3))⟩) fun z => absurd h3 z
      | cond q h2 h3 h4 =>
        refine c_block rfl rfl hd r1 h2 fun v G2 y2 r2 hv => q_skip rfl r2 ev_c (by decide) (fun _ G3 y3 r3 => ⟨_, rfl, _, rfl, _, rfl, c_block rfl rfl hd r3 h4 fun v4 G4 y4 r4 hv4 => ?_⟩) fun z => absurd h3 z
        refine fin _ _ _ G4 k (((y1.trans y2).trans y3).trans y4) r4 (by show 4 ≤ 5; decide) fun a G' kt hs => ?_
        rw [Stp.dat]
        exact .tup hs (.cons (.str _) (.cons (.str _) (.cons (Bdy.mvt kt _ (Bdy.mvt (r2.kt (y3.trans y4)) _ hv)) (.cons (Bdy.mvt kt _ hv4) .nil))))
    · cases hR with
      | cond0 q => exact k
      | cond1 q => rw [q] at hf; cases hf
      | cond2 q => rw [q] at hf; cases hf
      | cond3 q => rw [q] at hf; cases hf
      | cond q => rw [q] at hf; cases hf
  have tri : RNest T len dp "try" n o → tSeq (tAsg (tCall (sp_block K dp) [] E (tCons (tVar 0) (tCons (tVar 2) tNil))) (gName 3)) (tSeq (tDrop (tMeth (He.ga K "Reader") "skip" (sp_skip K) [] E (tVar 0) (tCons (tC (.str "catch")) tNil))) (tRet (tTup (tCons (tVar 1) (tCons (tVar 3) (tCons (tCall (sp_block K dp) [] E (tCons (tVar 0) (tCons (tVar 2) tNil))) tNil)))))) { nx := fun _ H' => Q .non H', rt := Q } (start ["reader", "word", "depth", "first", "name"] [.ref r, .str "try", .int dp]) H := by
    intro hR
    cases hR with
    | tri1 h2 => exact c_block rfl rfl hd hr h2 k
    | tri2 h2 h3 => exact c_block rfl rfl hd hr h2 fun v G2 y2 r2 hv => q_skip rfl r2 ev_c (by decide) (fun z => absurd z h3) fun _ => Bad.but k y2
    | tri3 h2 h3 h4 => exact c_block rfl rfl hd hr h2 fun v G2 y2 r2 hv => q_skip rfl r2 ev_c (by decide) (fun _ G3 y3 r3 => ⟨_, rfl, _, rfl, c_block rfl rfl hd r3 h4 (Bad.but k (y2.trans y3))⟩) fun z => absurd h3 z
    | tri h2 h3 h4 =>
      refine c_block rfl rfl hd hr h2 fun v G2 y2 r2 hv => q_skip rfl r2 ev_c (by decide) (fun _ G3 y3 r3 => ⟨_, rfl, _, rfl, c_block rfl rfl hd r3 h4 fun v4 G4 y4 r4 hv4 => ?_⟩) fun z => absurd h3 z
      refine fin _ _ _ G4 k ((y2.trans y3).trans y4) r4 (by show 3 ≤ 5; decide) fun a G' kt hs => ?_
      rw [Stp.dat]
      exact .tup hs (.cons (.str _) (.cons (Bdy.mvt kt _ (Bdy.mvt (r2.kt (y3.trans y4)) _ hv)) (.cons (Bdy.mvt kt _ hv4) .nil)))
  have loop : RNest T len dp "loop" n o → tRet (tTup (tCons (tVar 1) (tCons (tCall (sp_block K dp) [] E (tCons (tVar 0) (tCons (tVar 2) tNil))) tNil))) { nx := fun _ H' => Q .non H', rt := Q } (start ["reader", "word", "depth", "first", "name"] [.ref r, .str "loop", .int dp]) H := by
    intro hR
    cases hR with
    | loopE h2 => exact ⟨_, rfl, c_block rfl rfl hd hr h2 k⟩
    | loop h2 =>
      refine ⟨_, rfl, c_block rfl rfl hd hr h2 fun v G2 y2 r2 hv => ?_⟩
      refine fin _ _ _ G2 k y2 r2 (by show 2 ≤ 5; decide) fun a G' kt hs => ?_
      rw [Stp.dat]
      exact .tup hs (.cons (.str _) (.cons (Bdy.mvt kt _ hv) .nil))
  have alt : RNest T len dp "either" n o → tRet (tTup (tCons (tVar 1) (tCons (tCall (sp_either K dp) [] E (tCons (tVar 0) (tCons (tVar 2) tNil))) tNil))) { nx := fun _ H' => Q .non H', rt := Q } (start ["reader", "word", "depth", "first", "name"] [.ref r, .str "either", .int dp]) H := by
    intro hR
    cases hR with
    | altE h2 => exact ⟨_, rfl, ⟨_, rfl, _, rfl, hd, r, l, T, len, n, _, rfl, hr, h2, k⟩⟩
    | alt h2 =>
      refine ⟨_, rfl, ⟨_, rfl, _, rfl, hd, r, l, T, len, n, _, rfl, hr, h2, fun v G2 y2 r2 hv => ?_⟩⟩
      refine fin _ _ _ G2 k y2 r2 (by show 2 ≤ 5; decide) fun a G' kt hs => ?_
      rw [Stp.dat]
      refine .tup hs (.cons (.str _) (.cons ?_ .nil))
      cases hv with
      | tup ht hb => exact .tup (kt _ _ ht) (Bds.mv kt _ _ hb)
  have hw : w = "loop" ∨ w = "either" ∨ w = "try" ∨ w = "if" := by cases hR <;> simp
  refine x_when (a := w) rfl (fun e => ?_) fun e1 => x_when (a := w) rfl (fun e => ?_) fun e2 => x_when (a := w) rfl (fun e => ?_) fun e3 => ?_
  · subst e; exact loop hR
  · subst e; exact alt hR
  · subst e; exact tri hR
  · have e : w = "if" := by
      rcases hw with h | h | h | h
      · exact absurd h e1
      · exact absurd h e2
      · exact absurd h e3
      · exact h
    subst e
    exact cond hR rfl
theorem word_out : ∀ w ∈ wordSteps, w ∉ nestedSteps ∧ w ≠ "" := by decide
theorem class_out : ∀ w ∈ classSteps, w ∉ nestedSteps ∧ w ∉ wordSteps ∧ w ≠ "" := by decide
theorem bare_out : ∀ w ∈ bareSteps, w ∉ nestedSteps ∧ w ∉ wordSteps ∧ w ∉ classSteps ∧ w ≠ "" := by decide
theorem nest_out : ∀ w ∈ nestedSteps, w ≠ "" := by decide
theorem start_out : ∀ w ∈ startSteps, w ≠ "" ∧ w ≠ "or" := by decide
theorem pure_read_step {dp : Nat} (qN : ∀ H, SqT K H (He.ga K "NESTED_STEPS") (nestedSteps.map V.str)) (qW : ∀ H, SqT K H (He.ga K "WORD_STEPS") (wordSteps.map V.str)) (qC : ∀ H, SqT K H (He.ga K "CLASS_STEPS") (classSteps.map V.str)) (vs : List V) (H : Hp) (Q : VK) (E : XK) (h : (sp_step K dp) vs H Q E) : t_read_step K E dp { nx := fun _ H' => Q .non H', rt := Q } (start ["reader", "depth", "word", "step"] vs) H := by
  obtain ⟨hd, r, l, T, len, n, o, rfl, hr, hR, k⟩ := h
  have hw : tkAt T n ≠ "" := by
    cases hR with
    | word h => exact (word_out _ h).2
    | wordN h => exact (word_out _ h).2
    | wordE h => exact (word_out _ h).2
    | cls h => exact (class_out _ h).2.2
    | clsN h => exact (class_out _ h).2.2
    | clsE h => exact (class_out _ h).2.2
    | bare h => exact (bare_out _ h).2.2.2
    | bareE h => exact (bare_out _ h).2.2.2
    | nest h => exact nest_out _ h
  refine q_asg (ev_peek (ev_var rfl) hr) fun G0 x0 => ?_
  refine q_skip rfl (hr.ex x0) (ev_var rfl) hw (fun _ G1 y1 r1 => ?_) fun z => absurd rfl z
  have b1 : But r H G1 := (But.of x0).trans y1
  -- the end of a step that is not nested
  have fin : ∀ (s : Stp) (n2 : Nat) (ws : List Str) (a : Addr) (G : Hp), Stp.dat s = .tuple (ws.map PyData.str) → But r H G → Rdr K G r l T len n2 → G a = some (.tup (ws.map V.str)) →
      (tkAt T n2 = ";" → o = .good s (n2 + 1)) → (tkAt T n2 ≠ ";" → o = .bad (psAt T len n2)) →
      tSeq (tDrop (tMeth (He.ga K "Reader") "skip" (sp_skip K) [] E (tVar 0) (tCons (tC (.str ";")) tNil))) (tRet (tVar 3)) { nx := fun _ H' => Q .non H', rt := Q } [some (.ref r), some (.int dp), some (.str (tkAt T n)), some (.ref a)] G := by
    intro s n2 ws a G es hb hr ha h1 h2
    refine q_skip rfl hr ev_c (by decide) (fun q G2 y2 r2 => s_ret (ev_var rfl) fun G3 x3 => ?_) fun q => ?_
    · have e := h1 q
      subst e
      refine k _ _ ((hb.trans y2).trans (But.of x3)) (r2.ex x3) ?_
      rw [es]
      exact .tup ((hr.kt (y2.trans (But.of x3))) _ _ (st_of ha)) (dps_strs ws)
    · have e := h2 q
      subst e
      exact Bad.but k hb
  have word : ∀ (f : Str → Bool) (m : Str) (tz : TS) (G : Hp) (v3 : Option V) (D : Ends), (f "" = false) → But r H G → Rdr K G r l T len (n + 1) →
      (f (tkAt T (n + 1)) = true → ∀ G1 a, But r H G1 → Rdr K G1 r l T len (n + 1 + 1) → G1 a = some (.tup [.str (tkAt T n), .str (tkAt T (n + 1))]) → D.nx [some (.ref r), some (.int dp), some (.str (tkAt T n)), some (.ref a)] G1) → (f (tkAt T (n + 1)) = false → o = .bad (psAt T len (n + 1))) → m = m →
      (∀ lv : Int, ([("tokens", .ref l), ("length", .int len), ("passed", .int lv)] : List (Str × V)).lookup m = none) →
      tAsg (tTup (tCons (tVar 2) (tCons (tMeth (He.ga K "Reader") m (sp_read_one K f) [] E (tVar 0) tNil) tNil))) (gName 3) D [some (.ref r), some (.int dp), some (.str (tkAt T n)), v3] G := by
    intro f m tz G v3 D hf hb hr h1 h2 _ hm
    obtain ⟨dx, g1, _⟩ := id hr
    refine ⟨_, rfl, _, rfl, r, dx, _, rfl, g1, hm _, r, l, T, len, n + 1, rfl, hr, fun q G2 y2 r2 => ⟨by show 2 ≤ sizeLine; decide, fun a ha => h1 q _ a ((hb.trans y2).trans (But.of (Evl.Ex.new ha))) (r2.ex (Evl.Ex.new ha)) upd_same⟩, fun q => ?_⟩
    have e := h2 q
    subst e
    exact Bad.but k hb
  refine x_in (tz := tNext) rfl (qN G1) (fun hN => ?_) fun hN => ?_
  · cases hR with
    | nest _ h2 => exact ⟨_, rfl, _, rfl, _, rfl, hd, r, _, l, T, len, n + 1, _, rfl, r1, h2, by
        cases o with
        | good s n2 => exact fun v G2 y2 r2 hv => k v G2 (b1.trans y2) r2 hv
        | bad q => exact Bad.but k b1⟩
    | word h => exact absurd hN (word_out _ h).1
    | wordN h => exact absurd hN (word_out _ h).1
    | wordE h => exact absurd hN (word_out _ h).1
    | cls h => exact absurd hN (class_out _ h).1
    | clsN h => exact absurd hN (class_out _ h).1
    | clsE h => exact absurd hN (class_out _ h).1
    | bare h => exact absurd hN (bare_out _ h).1
    | bareE h => exact absurd hN (bare_out _ h).1
  · refine ⟨_, rfl, by show 1 ≤ sizeLine; decide, fun a ha => ?_⟩
    have b2 : But r H (upd G1 a (.tup [.str (tkAt T n)])) := b1.trans (But.of (Evl.Ex.new ha))
    have r2 := r1.ex (Evl.Ex.new (o := .tup [.str (tkAt T n)]) ha)
    refine x_in rfl (qW _) (fun hW => ?_) fun hW => ?_
    · refine word fitsW "read_word" tNext _ _ _ (by decide) b2 r2 (fun hf G3 a3 b3 r3 h3 => fin (.word (tkAt T n) (tkAt T (n + 1))) _ [tkAt T n, tkAt T (n + 1)] a3 G3 rfl b3 r3 h3 (fun q => ?_) (fun q => ?_)) (fun hf => ?_) rfl (fun _ => rfl)
      · cases hR with
        | word _ _ _ => rfl
        | wordN _ h2 => rw [h2] at hf; cases hf
        | wordE _ _ h3 => exact absurd q h3
        | cls h => exact absurd hW (class_out _ h).2.1
        | clsN h => exact absurd hW (class_out _ h).2.1
        | clsE h => exact absurd hW (class_out _ h).2.1
        | bare h => exact absurd hW (bare_out _ h).2.1
        | bareE h => exact absurd hW (bare_out _ h).2.1
        | nest h => exact absurd h hN
      · cases hR with
        | word _ _ h3 => exact absurd h3 q
        | wordN _ h2 => rw [h2] at hf; cases hf
        | wordE _ _ h3 => rfl
        | cls h => exact absurd hW (class_out _ h).2.1
        | clsN h => exact absurd hW (class_out _ h).2.1
        | clsE h => exact absurd hW (class_out _ h).2.1
        | bare h => exact absurd hW (bare_out _ h).2.1
        | bareE h => exact absurd hW (bare_out _ h).2.1
        | nest h => exact absurd h hN
      · cases hR with
        | word _ h2 => rw [h2] at hf; cases hf
        | wordN _ h2 => rfl
        | wordE _ h2 => rw [h2] at hf; cases hf
        | cls h => exact absurd hW (class_out _ h).2.1
        | clsN h => exact absurd hW (class_out _ h).2.1
        | clsE h => exact absurd hW (class_out _ h).2.1
        | bare h => exact absurd hW (bare_out _ h).2.1
        | bareE h => exact absurd hW (bare_out _ h).2.1
        | nest h => exact absurd h hN
    · refine x_in (tz := tNext) rfl (qC _) (fun hC => ?_) fun hC => ?_
      · refine word fitsC "read_class_name" tNext _ _ _ (by decide) b2 r2 (fun hf G3 a3 b3 r3 h3 => fin (.word (tkAt T n) (tkAt T (n + 1))) _ [tkAt T n, tkAt T (n + 1)] a3 G3 rfl b3 r3 h3 (fun q => ?_) (fun q => ?_)) (fun hf => ?_) rfl (fun _ => rfl)
        · cases hR with
          | cls _ _ _ => rfl
          | clsN _ h2 => rw [h2] at hf; cases hf
          | clsE _ _ h3 => exact absurd q h3
          | word h => exact absurd h hW
          | wordN h => exact absurd h hW
          | wordE h => exact absurd h hW
          | bare h => exact absurd hC (bare_out _ h).2.2.1
          | bareE h => exact absurd hC (bare_out _ h).2.2.1
          | nest h => exact absurd h hN
        · cases hR with
          | cls _ _ h3 => exact absurd h3 q
          | clsN _ h2 => rw [h2] at hf; cases hf
          | clsE _ _ h3 => rfl
          | word h => exact absurd h hW
          | wordN h => exact absurd h hW
          | wordE h => exact absurd h hW
          | bare h => exact absurd hC (bare_out _ h).2.2.1
          | bareE h => exact absurd hC (bare_out _ h).2.2.1
          | nest h => exact absurd h hN
        · cases hR with
          | cls _ h2 => rw [h2] at hf; cases hf
          | clsN _ h2 => rfl
          | clsE _ h2 => rw [h2] at hf; cases hf
          | word h => exact absurd h hW
          | wordN h => exact absurd h hW
          | wordE h => exact absurd h hW
          | bare h => exact absurd hC (bare_out _ h).2.2.1
          | bareE h => exact absurd hC (bare_out _ h).2.2.1
          | nest h => exact absurd h hN
      · refine fin (.bare (tkAt T n)) (n + 1) [tkAt T n] a _ rfl b2 r2 upd_same (fun q => ?_) (fun q => ?_)
        · cases hR with
          | bare _ _ => rfl
          | bareE _ h2 => exact absurd q h2
          | word h => exact absurd h hW
          | wordN h => exact absurd h hW
          | wordE h => exact absurd h hW
          | cls h => exact absurd h hC
          | clsN h => exact absurd h hC
          | clsE h => exact absurd h hC
          | nest h => exact absurd h hN
        · cases hR with
          | bare _ h2 => exact absurd h2 q
          | bareE _ h2 => rfl
          | word h => exact absurd h hW
          | wordN h => exact absurd h hW
          | wordE h => exact absurd h hW
          | cls h => exact absurd h hC
          | clsN h => exact absurd h hC
          | clsE h => exact absurd h hC
          | nest h => exact absurd h hN
end
end Ef

namespace Ef
open PySem PySem.Spec PyProof.Rows L2 Evl
section
variable {K : PySem.W.Frag} {σ : L2.St} {H H1 H2 G : Hp} {te : TE} {r l p : Addr} {T : List (Int × Str)} {len : Int} {dp : Nat}
/-! read_body -/
def BodInv (K : PySem.W.Frag) (r l : Addr) (T : List (Int × Str)) (len : Int) (dp : Nat) (H : Hp) (Q : VK) (E : XK) (p : Addr) (m : Nat) (G : Hp) : Prop := ∃ (n : Nat) (o : Out Bdy) (ss : List Stp) (xs : List V), H p = none ∧ p ≠ l ∧ But r H G ∧ Rdr K G r l T len n ∧ G p = some (.lst xs) ∧ DpAll K G xs (ss.map Stp.dat) ∧ xs.length ≤ n ∧ RBody T len dp n m o ∧
  (∀ b n2, o = .good b n2 → ∀ v H', But r H H' → Rdr K H' r l T len n2 → Dp K H' v (.tuple (ss.map Stp.dat ++ b.dats)) → Q v H') ∧ ∀ q, o = .bad q → Bad K r H E q
theorem BodInv.ex {Q : VK} {E : XK} {m : Nat} (e : Evl.Ex G H1) (h : BodInv K r l T len dp H Q E p m G) : BodInv K r l T len dp H Q E p m H1 := by
  obtain ⟨n, o, bl, xs, hp, hpl, hb, hr, hG, hD, hx, hM, k1, k2⟩ := h
  exact ⟨n, o, bl, xs, hp, hpl, hb.trans (But.of e), hr.ex e, e _ _ hG, mvS (KT.of e) _ _ hD, hx, hM, k1, k2⟩
theorem c_step {n : Nat} {Q : VK} {E : XK} {o : Out Stp} (h0 : σ[0]? = some (some (.ref r))) (hi : σ[1]? = some (some (.int (dp : Int)))) (hd : dp ≤ 6) (hr : Rdr K H r l T len n) (hR : RStep T len dp n o) (k : Ends2 K r l T len H Q E Stp.dat o) :
    tCall (sp_step K dp) [] E (tCons (tVar 0) (tCons (tVar 1) tNil)) σ H Q := ⟨_, h0, _, hi, hd, r, l, T, len, n, o, rfl, hr, hR, k⟩
theorem bod_turn {Q : VK} {E : XK} {D : Ends} {m : Nat} (hd : dp ≤ 6) (h : BodInv K r l T len dp H Q E p (m + 1) G) (k : ∀ G', BodInv K r l T len dp H Q E p m G' → D.nx [some (.ref r), some (.int dp), some (.ref p)] G') :
    tDrop (tBM K "list" rAppend (tVar 2) (tCons (tCall (sp_step K dp) [] E (tCons (tVar 0) (tCons (tVar 1) tNil))) tNil)) D [some (.ref r), some (.int dp), some (.ref p)] G := by
  obtain ⟨n, o, ss, xs, hp, hpl, hb, hr, hG, hD, hx, hM, k1, k2⟩ := h
  have ht : tkAt T n ∈ startSteps := by cases hM <;> assumption
  have hlt : n < T.length := tk_lt (start_out _ ht).1
  have hT : T.length ≤ 100000 := by obtain ⟨dx, _, _, h3, _⟩ := id hr; exact h3
  refine s_appC rfl hG ?_
  cases hM with
  | fail _ h1 => exact c_step rfl rfl hd hr h1 (Bad.but (k2 _ rfl) hb)
  | @next _ _ n1 n2 _ s b _ h1 h2 h3 =>
    refine c_step rfl rfl hd hr h1 fun v G2 y2 r2 hv => ⟨p, xs, v, rfl, rfl, y2 _ _ (hr.ne hG) hG, Nat.lt_of_le_of_lt (show xs.length ≤ 100000 by omega) (by decide), k _ ?_⟩
    have hG2 : G2 p = some (.lst xs) := y2 _ _ (hr.ne hG) hG
    refine ⟨_, _, ss ++ [s], _, hp, hpl, but_mut (hb.trans y2) hp, r2.mut hG2 hpl, upd_same, ?_, ?_, h3, ?_, fun q e => by cases e⟩
    · rw [List.map_append]
      exact dp_snoc (Stp.mv (kt_mut hG2) _ _ hv) _ _ (mvS (kt_mut hG2) _ _ (mvS (hr.kt y2) _ _ hD))
    · rw [List.length_append, List.length_singleton]; omega
    · intro b' n2 e v' H' z1 z2 z3
      cases e
      refine k1 _ _ rfl v' H' z1 z2 ?_
      rw [Bdy.dats]
      rw [List.map_append, List.append_assoc] at z3
      exact z3
  | @late _ _ n1 _ s q _ h1 h2 h3 =>
    refine c_step rfl rfl hd hr h1 fun v G2 y2 r2 hv => ⟨p, xs, v, rfl, rfl, y2 _ _ (hr.ne hG) hG, Nat.lt_of_le_of_lt (show xs.length ≤ 100000 by omega) (by decide), k _ ?_⟩
    have hG2 : G2 p = some (.lst xs) := y2 _ _ (hr.ne hG) hG
    refine ⟨_, _, ss ++ [s], _, hp, hpl, but_mut (hb.trans y2) hp, r2.mut hG2 hpl, upd_same, ?_, ?_, h3, (fun bs n2 e => by cases e), k2⟩
    · rw [List.map_append]
      exact dp_snoc (Stp.mv (kt_mut hG2) _ _ hv) _ _ (mvS (kt_mut hG2) _ _ (mvS (hr.kt y2) _ _ hD))
    · rw [List.length_append, List.length_singleton]; omega
theorem pure_read_body {dp : Nat} (qS : ∀ H, SqT K H (He.ga K "STARTS") (startSteps.map V.str)) (vs : List V) (H : Hp) (Q : VK) (E : XK) (h : (sp_body K dp) vs H Q E) : t_read_body K E dp { nx := fun _ H' => Q .non H', rt := Q } (start ["reader", "depth", "steps"] vs) H := by
  obtain ⟨hd, r, l, T, len, n, o, rfl, hr, ⟨m0, hR⟩, k⟩ := h
  refine ⟨by show 0 ≤ sizeLine; decide, fun p hp => ?_⟩
  have x0 : Evl.Ex H (upd H p (.lst [])) := Evl.Ex.new hp
  refine q_while (fun m σ G => σ = [some (.ref r), some (.int dp), some (.ref p)] ∧ BodInv K r l T len dp H Q E p m G) m0 ⟨rfl, n, o, [], [], hp, hr.rows hp, But.of x0, hr.ex x0, upd_same, .nil, Nat.zero_le _, hR, fun b n2 e => ?_, fun q e => ?_⟩ ?_
  · cases e
    exact fun v H' z1 z2 z3 => k v H' z1 z2 z3
  · cases e
    exact k
  rintro m σ G ⟨rfl, hI⟩
  obtain ⟨n, o, ss, xs, hp, hpl, hb, hr, hG, hD, hx, hM, k1, k2⟩ := id hI
  refine ⟨decide (tkAt T n ∈ startSteps), et_is (et_test (ev_op (ev_peek (ev_var rfl) hr) ev_c (rv_isT (qS G) rfl (flat_strs _)))) (inV_strs _ _), fun e G1 x1 => ?_, fun e G1 x1 => ?_⟩
  · have ht := of_decide_eq_true e
    cases m with
    | zero =>
      cases hM with
      | stop h => exact absurd ht h
    | succ m => exact ⟨fun σ2 H2 => σ2 = [some (.ref r), some (.int dp), some (.ref p)] ∧ BodInv K r l T len dp H Q E p m H2, fun σ2 H2 z => ⟨m, by omega, z⟩, bod_turn hd (hI.ex x1) fun G' z => ⟨rfl, z⟩⟩
  · have ht := of_decide_eq_false e
    cases hM with
    | stop h =>
      refine ⟨_, rfl, p, xs, rfl, .inl ⟨sq_of (x1 _ _ hG), fun q hq => k1 _ _ rfl _ _ ((hb.trans (But.of x1)).trans (But.of (Evl.Ex.new hq))) (hr.ex (x1.trans (Evl.Ex.new hq))) ?_⟩⟩
      rw [Bdy.dats, List.append_nil]
      exact .tup (st_of upd_same) (mvS (KT.of (x1.trans (Evl.Ex.new hq))) _ _ hD)
    | fail h => exact absurd h ht
    | next h => exact absurd h ht
    | late h => exact absurd h ht
/-! read_steps -/
theorem et_isStr {z : Str} (h : Ev te σ H (.str z)) : EvT (tB (tCB (rIsi K) (tCons te (tCons (tC (.ty "str")) tNil)))) σ H true :=
  et_B (ev_cb (ea_cons h (ea_cons ev_c ea_nil)) fun H1 _ _ q => ⟨_, _, .type "str", .type "str", true, rfl, .ty _, .base (.str _), by rfl, q H1 (Evl.Ex.refl H1)⟩)
theorem pure_read_steps (vs : List V) (H : Hp) (Q : VK) (E : XK) (h : (sp_read_steps K) vs H Q E) : t_read_steps K E { nx := fun _ H' => Q .non H', rt := Q } (start ["text", "reader", "body"] vs) H := by
  obtain ⟨z, o, rfl, hl, hR, k⟩ := h
  refine q_when (et_not (et_isStr (ev_var rfl))) (fun e => by cases e) fun _ G0 x0 => ?_
  refine ⟨_, rfl, fun r dx hr hdx hne => ⟨r, dx, z, rfl, hl, upd_same, fun G1 l y1 hl1 r1 => ⟨rfl, ?_⟩⟩⟩
  have hr0 : H r = none := fresh_back x0 hr
  have b1 : But r H G1 := ((But.of (x0.trans (Evl.Ex.new (o := .own r) hdx))).trans (But.refl.upd)).trans y1
  have call : ∀ (o' : Out Bdy) (kk : Nat) (Q' : VK), RBody (tokens z) z.length 0 0 kk o' → Ends2 K r l (tokens z) z.length G1 Q' E (fun b : Bdy => .tuple b.dats) o' → tCall (sp_body K 0) [] E (tCons (tVar 1) (tCons (tC (.int 0)) tNil)) [some (.str z), some (.ref r), none] G1 Q' :=
    fun o' kk Q' hB hE => ⟨_, rfl, by omega, r, l, _, _, 0, o', rfl, r1, ⟨kk, hB⟩, hE⟩
  -- behind the body
  have tail : ∀ (b : Bdy) (n : Nat) (v : V) (G2 : Hp), But r H G2 → Rdr K G2 r l (tokens z) z.length n → Dp K G2 v (.tuple b.dats) → (tkAt (tokens z) n = "" → ∀ G3, But r H G3 → Dp K G3 v (.tuple b.dats) → Q v G3) → (tkAt (tokens z) n ≠ "" → Bad K r H E (psAt (tokens z) z.length n)) →
      tSeq (tIfS (tTest (tOp rNe (tMeth (He.ga K "Reader") "peek" (sp_peek K) [] E0 (tVar 1) tNil) (tC (.str "")))) (tRaise (He.ga K "BadText") ["at"] E (tCons (tMeth (He.ga K "Reader") "position" (sp_position K) [] E0 (tVar 1) tNil) tNil)) tNext) (tRet (tVar 2)) { nx := fun _ H' => Q .non H', rt := Q } [some (.str z), some (.ref r), some v] G2 := by
    intro b n v G2 b2 r2 hv k1 k2
    refine q_when (et_test (ev_op (ev_peek (ev_var rfl) r2) ev_c (rv_ne rfl))) (fun e G x => ?_) (fun e G x => ?_)
    · rw [str_dec] at e
      exact s_raise (ea_cons (ev_position (ev_var rfl) (r2.ex x)) ea_nil) rfl (by show 1 ≤ 900; decide) fun H1 d y hd => k2 (by simpa using e) H1 d (b2.trans (But.of (x.trans y))) hd
    · rw [str_dec] at e
      exact s_ret (ev_var rfl) fun G3 x3 => k1 (by simpa using e) G3 (b2.trans (But.of (x.trans x3))) (Bdy.mvt (KT.of (x.trans x3)) _ hv)
  cases o with
  | good b n =>
    obtain ⟨⟨kk, hB⟩, hE⟩ := hR
    refine call _ kk _ hB fun v G2 y2 r2 hv => tail b n v G2 (b1.trans y2) r2 hv (fun _ G3 b3 h3 => k v G3 (b3.ex hr0) h3) fun q => absurd hE q
  | bad q =>
    have kb : Bad K r H E q := fun H1 d x hd => k H1 d (x.ex hr0) hd
    rcases hR with ⟨kk, hB⟩ | ⟨kk, b, n, hB, hE, rfl⟩
    · exact call _ kk _ hB (kb.but b1)
    · exact call _ kk _ hB fun v G2 y2 r2 hv => tail b n v G2 (b1.trans y2) r2 hv (fun e => absurd e hE) fun _ => kb
end
end Ef

namespace Ef
open PySem PySem.Spec PyProof.Rows L2 Evl
/-! bodies as lists -/
def Bdy.steps : Bdy → List Stp
  | .nil => []
  | .cons s b => s :: b.steps
def Bds.list : Bds → List Bdy
  | .nil => []
  | .cons b bs => b :: bs.list
theorem dats_list : ∀ b : Bdy, b.dats = b.steps.map Stp.dat
  | .nil => by rw [Bdy.dats, Bdy.steps]; rfl
  | .cons s b => by rw [Bdy.dats, Bdy.steps, List.map_cons, dats_list b]
theorem txts_list : ∀ b : Bdy, b.txts = b.steps.map Stp.txt
  | .nil => by rw [Bdy.txts, Bdy.steps]; rfl
  | .cons s b => by rw [Bdy.txts, Bdy.steps, List.map_cons, txts_list b]
theorem toks_list : ∀ b : Bdy, b.toks = (b.steps.map Stp.toks).flatten
  | .nil => by rw [Bdy.toks, Bdy.steps]; rfl
  | .cons s b => by rw [Bdy.toks, Bdy.steps, List.map_cons, List.flatten_cons, toks_list b]
theorem ok_list : ∀ b : Bdy, b.ok → ∀ s ∈ b.steps, s.ok
  | .nil, _, s, h => by rw [Bdy.steps] at h; cases h
  | .cons t b, h, s, hs => by
    rw [Bdy.ok] at h
    rw [Bdy.steps] at hs
    rcases List.mem_cons.mp hs with rfl | hs
    · exact h.1
    · exact ok_list b h.2 s hs
theorem dep_list : ∀ b : Bdy, ∀ s ∈ b.steps, s.dep ≤ b.dep
  | .nil, s, h => by rw [Bdy.steps] at h; cases h
  | .cons t b, s, hs => by
    rw [Bdy.steps] at hs
    rw [Bdy.dep]
    rcases List.mem_cons.mp hs with rfl | hs
    · omega
    · have := dep_list b s hs; omega
theorem bdats_list : ∀ b : Bds, b.dats = b.list.map fun c => PyData.tuple c.dats
  | .nil => by rw [Bds.dats, Bds.list]; rfl
  | .cons s b => by rw [Bds.dats, Bds.list, List.map_cons, bdats_list b]
theorem blks_list : ∀ b : Bds, b.blks = b.list.map Bdy.blk
  | .nil => by rw [Bds.blks, Bds.list]; rfl
  | .cons s b => by rw [Bds.blks, Bds.list, List.map_cons, blks_list b]
theorem bok_list : ∀ b : Bds, b.ok → ∀ s ∈ b.list, s.ok
  | .nil, _, s, h => by rw [Bds.list] at h; cases h
  | .cons t b, h, s, hs => by
    rw [Bds.ok] at h
    rw [Bds.list] at hs
    rcases List.mem_cons.mp hs with rfl | hs
    · exact h.1
    · exact bok_list b h.2 s hs
theorem bdep_list : ∀ b : Bds, ∀ s ∈ b.list, s.dep ≤ b.dep
  | .nil, s, h => by rw [Bds.list] at h; cases h
  | .cons t b, s, hs => by
    rw [Bds.list] at hs
    rw [Bds.dep]
    rcases List.mem_cons.mp hs with rfl | hs
    · omega
    · have := bdep_list b s hs; omega
section
variable {K : PySem.W.Frag} {σ : L2.St} {H H1 : Hp} {ta tb te tl : TE} {v : V}
theorem inv_word {p n : Str} (h : Dp K H v (Stp.dat (.word p n))) : ∃ a, v = .ref a ∧ SqT K H a ([p, n].map V.str) := by
  rw [Stp.dat] at h
  cases h with
  | tup hs ha =>
    cases ha with
    | cons h1 h2 =>
      cases h1
      cases h2 with
      | cons h1 h2 => cases h1; cases h2; exact ⟨_, rfl, hs⟩
theorem inv_bare {p : Str} (h : Dp K H v (Stp.dat (.bare p))) : ∃ a, v = .ref a ∧ SqT K H a ([p].map V.str) := by
  rw [Stp.dat] at h
  cases h with
  | tup hs ha =>
    cases ha with
    | cons h1 h2 => cases h1; cases h2; exact ⟨_, rfl, hs⟩
theorem inv_loop {b : Bdy} (h : Dp K H v (Stp.dat (.loop b))) : ∃ a u, v = .ref a ∧ SqT K H a [.str "loop", u] ∧ Dp K H u (.tuple b.dats) := by
  rw [Stp.dat] at h
  cases h with
  | tup hs ha =>
    cases ha with
    | cons h1 h2 =>
      cases h1
      cases h2 with
      | cons h1 h2 => cases h2; exact ⟨_, _, rfl, hs, h1⟩
theorem inv_alt {b : Bds} (h : Dp K H v (Stp.dat (.alt b))) : ∃ a u, v = .ref a ∧ SqT K H a [.str "either", u] ∧ Dp K H u (.tuple b.dats) := by
  rw [Stp.dat] at h
  cases h with
  | tup hs ha =>
    cases ha with
    | cons h1 h2 =>
      cases h1
      cases h2 with
      | cons h1 h2 => cases h2; exact ⟨_, _, rfl, hs, h1⟩
theorem inv_tri {b c : Bdy} (h : Dp K H v (Stp.dat (.tri b c))) : ∃ a u w, v = .ref a ∧ SqT K H a [.str "try", u, w] ∧ Dp K H u (.tuple b.dats) ∧ Dp K H w (.tuple c.dats) := by
  rw [Stp.dat] at h
  cases h with
  | tup hs ha =>
    cases ha with
    | cons h1 h2 =>
      cases h1
      cases h2 with
      | cons h1 h2 =>
        cases h2 with
        | cons h3 h4 => cases h4; exact ⟨_, _, _, rfl, hs, h1, h3⟩
theorem inv_cond {n : Str} {b c : Bdy} (h : Dp K H v (Stp.dat (.cond n b c))) : ∃ a u w, v = .ref a ∧ SqT K H a [.str "if", .str n, u, w] ∧ Dp K H u (.tuple b.dats) ∧ Dp K H w (.tuple c.dats) := by
  rw [Stp.dat] at h
  cases h with
  | tup hs ha =>
    cases ha with
    | cons h1 h2 =>
      cases h1
      cases h2 with
      | cons h1 h2 =>
        cases h1
        cases h2 with
        | cons h1 h2 =>
          cases h2 with
          | cons h3 h4 => cases h4; exact ⟨_, _, _, rfl, hs, h1, h3⟩
theorem inv_tup {ds : List PyData} (h : Dp K H v (.tuple ds)) : ∃ a xs, v = .ref a ∧ SqT K H a xs ∧ DpAll K H xs ds := by
  cases h with
  | tup hs ha => exact ⟨_, _, rfl, hs, ha⟩
theorem dp_len : ∀ (ds : List PyData) (xs : List V), DpAll K H xs ds → xs.length = ds.length
  | [], _, h => by cases h; rfl
  | d :: ds, _, h => by
    cases h with
    | cons _ h2 => rw [List.length_cons, List.length_cons, dp_len ds _ h2]
theorem dp_at : ∀ (ds : List PyData) (xs : List V) (i : Nat) (x : V), DpAll K H xs ds → xs[i]? = some x → ∃ d, ds[i]? = some d ∧ Dp K H x d
  | [], _, i, x, h, hx => by cases h; simp at hx
  | d :: ds, _, 0, x, h, hx => by
    cases h with
    | cons h1 h2 =>
      have e : _ = x := Option.some.inj hx
      subst e
      exact ⟨d, rfl, h1⟩
  | d :: ds, _, i + 1, x, h, hx => by
    cases h with
    | cons h1 h2 => exact dp_at ds _ i x h2 hx
/-! joins -/
theorem join_room (sep : Str) (ys : List Str) (h : (Txt.join sep ys).length ≤ 100000) (hs : sep.length ≤ 100) : (ys.map (·.length)).sum + ys.length * sep.length ≤ 16777216 := by
  have e : (Txt.join sep ys).length = (ys.map (·.length)).sum + (ys.length - 1) * sep.length := PySem.size_glued sep ys
  have : ys.length * sep.length ≤ (ys.length - 1) * sep.length + sep.length := by
    cases ys with
    | nil => simp
    | cons y r =>
      rw [List.length_cons, Nat.add_sub_cancel, Nat.add_mul]
      omega
  omega
theorem mem_sum : ∀ (ys : List Str) (y : Str), y ∈ ys → y.length ≤ (ys.map (·.length)).sum
  | [], _, h => by cases h
  | x :: ys, y, h => by
    rw [List.map_cons, List.sum_cons]
    rcases List.mem_cons.mp h with rfl | h
    · omega
    · have := mem_sum ys y h; omega
theorem join_mem {sep : Str} {ys : List Str} {y : Str} (h : y ∈ ys) : y.length ≤ (Txt.join sep ys).length := by
  have e : (Txt.join sep ys).length = (ys.map (·.length)).sum + (ys.length - 1) * sep.length := PySem.size_glued sep ys
  have := mem_sum ys y h
  omega
theorem ev_joinL {sep : Str} {ys : List Str} (h : Ev ta σ H (.str sep)) (hb : EvL tb σ H (ys.map V.str)) (hn : (Txt.join sep ys).length ≤ 100000) (hs : sep.length ≤ 100) : Ev (tM1 (rJoinS K) ta tb) σ H (.str (Txt.join sep ys)) := fun H1 e Q q =>
  h H1 e _ fun H2 e2 => ⟨⟨sep, rfl⟩, hb H2 (e.trans e2) _ fun p H3 _ e3 h3 => ⟨sep, p, ys, rfl, rfl, .inl (sq_of h3), join_room sep ys hn hs, q H3 (e2.trans e3)⟩⟩
theorem ev_joinR {sep : Str} {ys : List Str} {a : Addr} (h : Ev ta σ H (.str sep)) (hb : Ev tb σ H (.ref a)) (ha : SqL K H a (ys.map V.str) ∨ SqT K H a (ys.map V.str)) (hn : (Txt.join sep ys).length ≤ 100000) (hs : sep.length ≤ 100) : Ev (tM1 (rJoinS K) ta tb) σ H (.str (Txt.join sep ys)) := fun H1 e Q q =>
  h H1 e _ fun H2 e2 => ⟨⟨sep, rfl⟩, hb H2 (e.trans e2) _ fun H3 e3 => ⟨sep, a, ys, rfl, rfl, ha.imp (ex_l ((e.trans e2).trans e3)) (ex_t ((e.trans e2).trans e3)), join_room sep ys hn hs, q H3 (e2.trans e3)⟩⟩
theorem given_all (ys : List Str) : given ys.length (fun _ => true) (fun i => V.str (ys.getD i "")) = ys.map V.str := by
  unfold given
  rw [filter_true]
  apply List.ext_getElem?
  intro i
  rw [List.getElem?_map, List.getElem?_map]
  by_cases h : i < ys.length
  · rw [List.getElem?_range h, List.getElem?_eq_getElem h]
    show some (V.str (ys.getD i "")) = some (V.str ys[i])
    rw [List.getD_eq_getElem?_getD, List.getElem?_eq_getElem h]; rfl
  · rw [List.getElem?_eq_none (by simp; omega), List.getElem?_eq_none (by omega)]; rfl
/-- [f(x) for x in t], t a tuple, f gives texts -/
theorem el_lcTS {a : Addr} {xs : List V} {j : Nat} {vs : List Nat} (ys : List Str) (h : Ev tl σ H (.ref a)) (hx : SqT K H a xs) (hz : xs.length ≤ 40000) (hl : xs.length = ys.length) (hw : ∀ x, wipe ((wipe σ vs).set j (some x)) vs = wipe σ vs)
    (he : ∀ (i : Nat) (x : V) (y : Str) H1, Evl.Ex H H1 → xs[i]? = some x → ys[i]? = some y → Ev te ((wipe σ vs).set j (some x)) H1 (.str y)) :
    EvL (tLc (iTup K tl) (gName j) tYes te vs) σ H (ys.map V.str) := fun H0 e Q q => h H0 e _ fun H1 e1 => ⟨a, rfl, ⟨xs, ex_t (e.trans e1) hx⟩, fun Dl hD =>
  lc_tup (xs := xs) (Cw H1 (fun _ => true) (fun i => V.str (ys.getD i "")) Dl) ⟨hD, Evl.Ex.new hD, upd_same⟩ (fun i H' _ p => ex_t ((e.trans e1).trans p.2.1) hx) (fun i x H' hi p => ⟨hw x, cw_turn p (by have := (List.getElem?_eq_some_iff.mp hi).1; omega) et_yes (fun _ => by
      have hi' : i < ys.length := by have := (List.getElem?_eq_some_iff.mp hi).1; omega
      have ey : ys[i]? = some ys[i] := List.getElem?_eq_getElem hi'
      have := he i x _ H1 (e.trans e1) hi ey
      rw [List.getD_eq_getElem?_getD, ey]
      exact this)⟩)
    (fun H' p => q Dl H' (fresh_back e1 p.1) (e1.trans p.2.1) (by have z := p.2.2; rw [hl, given_all] at z; exact z))⟩
theorem s_unless {a b : Str} {tu tw : TS} {D : Ends} (ha : Ev ta σ H (.str a)) (hb : Ev tb σ H (.str b)) (n : a ≠ b) (k : ∀ H1, Evl.Ex H H1 → tw D σ H1) : tIfS (tTest (tOp rEq ta tb)) tu tw D σ H :=
  s_if (et_is (et_strEq ha hb) (b := false) (decide_eq_false n)) (fun e => by cases e) fun _ => k
theorem s_then {a b : Str} {tu tw : TS} {D : Ends} (ha : Ev ta σ H (.str a)) (hb : Ev tb σ H (.str b)) (n : a = b) (k : ∀ H1, Evl.Ex H H1 → tu D σ H1) : tIfS (tTest (tOp rEq ta tb)) tu tw D σ H :=
  s_if (et_is (et_strEq ha hb) (b := true) (decide_eq_true n)) (fun _ => k) (fun e => by cases e)
theorem q_unless {a b : Str} {tu tz : TS} {D : Ends} (ha : Ev ta σ H (.str a)) (hb : Ev tb σ H (.str b)) (n : a ≠ b) (k : ∀ H1, Evl.Ex H H1 → tz D σ H1) : tSeq (tIfS (tTest (tOp rEq ta tb)) tu tNext) tz D σ H := s_unless (D := { D with nx := tz D }) ha hb n k
theorem q_then {a b : Str} {tu tz : TS} {D : Ends} (ha : Ev ta σ H (.str a)) (hb : Ev tb σ H (.str b)) (n : a = b) (k : ∀ H1, Evl.Ex H H1 → tu { D with nx := tz D } σ H1) : tSeq (tIfS (tTest (tOp rEq ta tb)) tu tNext) tz D σ H := s_then (D := { D with nx := tz D }) ha hb n k
theorem q_setv {i : Nat} {tz : TS} {D : Ends} (h : Ev te σ H v) (k : ∀ H1, Evl.Ex H H1 → tz D (σ.set i (some v)) H1) : tSeq (tAsg te (gName i)) tz D σ H := q_asg h k
/-! writing -/
theorem len_write_block {dp : Nat} {vs : List V} {Q : VK} {E : XK} (h : (sp_write_block K dp) vs H Q E) : vs.length = 1 := by
  obtain ⟨v, b, rfl, _⟩ := h; rfl
theorem len_write_step {dp : Nat} {vs : List V} {Q : VK} {E : XK} (h : (sp_write_step K dp) vs H Q E) : vs.length = 1 := by
  obtain ⟨v, b, rfl, _⟩ := h; rfl
theorem len_write_steps {dp : Nat} {vs : List V} {Q : VK} {E : XK} (h : (sp_write_steps K dp) vs H Q E) : vs.length = 1 := by
  obtain ⟨v, b, rfl, _⟩ := h; rfl
theorem len__law_block {dp : Nat} {vs : List V} {Q : VK} {E : XK} (h : (sp_write_block K dp) vs H Q E) : vs.length = 1 := len_write_block h
theorem len__law_written {dp : Nat} {vs : List V} {Q : VK} {E : XK} (h : (sp_write_steps K dp) vs H Q E) : vs.length = 1 := len_write_steps h
theorem blk_cons (s : Stp) (b : Bdy) : Bdy.blk (.cons s b) = "{ " ++ Bdy.txt (.cons s b) ++ " }" := by
  rw [Bdy.blk, Bdy.txt, Bdy.txts]
theorem ev_wblock {dp : Nat} {b : Bdy} {u : V} {E : XK} (h : Ev te σ H u) (hu : Dp K H u (.tuple b.dats)) (ok : b.ok) (hd : b.dep < dp ∧ dp ≤ 9) (hl : b.blk.length ≤ 30000) : Ev (tCall (sp_write_block K dp) [] E (tCons te tNil)) σ H (.str b.blk) :=
  ev_call (ea_cons h ea_nil) fun H1 e Q q _ => ⟨u, b, rfl, Bdy.mvt (KT.of e) b hu, ok, hd, hl, q⟩
theorem ev_wsteps {dp : Nat} {b : Bdy} {u : V} {E : XK} (h : Ev te σ H u) (hu : Dp K H u (.tuple b.dats)) (ok : b.ok) (hd : b.dep < dp ∧ dp ≤ 9) (hl : b.txt.length ≤ 30000) : Ev (tCall (sp_write_steps K dp) [] E (tCons te tNil)) σ H (.str b.txt) :=
  ev_call (ea_cons h ea_nil) fun H1 e Q q _ => ⟨u, b, rfl, Bdy.mvt (KT.of e) b hu, ok, hd, hl, q⟩
theorem pure_write_block {dp : Nat} (vs : List V) (H : Hp) (Q : VK) (E : XK) (h : (sp_write_block K dp) vs H Q E) : t_write_block K dp { nx := fun _ H' => Q .non H', rt := Q } (start ["body"] vs) H := by
  obtain ⟨v, b, rfl, hD, ok, hd, hl, k⟩ := h
  obtain ⟨a, xs, rfl, hs, ha⟩ := inv_tup hD
  have hx := dp_len _ _ ha
  refine s_ret (ev_if (et_is (et_test (ev_op (ev_lenSq (ev_var rfl) (.inr hs)) ev_c (rv_eq rfl))) (int_dec _ _)) (fun e => ?_) (fun e => ?_)) k
  · have e1 : xs.length = 0 := by have := of_decide_eq_true e; omega
    cases b with
    | nil => rw [Bdy.blk]; exact ev_c
    | cons s b => rw [Bdy.dats, List.length_cons] at hx; omega
  · have e1 : xs.length ≠ 0 := by have := of_decide_eq_false e; omega
    cases b with
    | nil => rw [Bdy.dats] at hx; exact absurd hx e1
    | cons s b =>
      rw [blk_cons, len_app, len_app] at hl
      rw [blk_cons]
      exact ev_addSt (ev_addSt ev_c (ev_wsteps (ev_var rfl) hD ok hd (by omega)) (by omega)) ev_c (by rw [len_app]; omega)
theorem word_not : ∀ w ∈ wordSteps, w ≠ "loop" ∧ w ≠ "either" ∧ w ≠ "try" ∧ w ≠ "if" := by decide
theorem class_not : ∀ w ∈ classSteps, w ≠ "loop" ∧ w ≠ "either" ∧ w ≠ "try" ∧ w ≠ "if" := by decide
theorem bare_not : ∀ w ∈ bareSteps, w ≠ "loop" ∧ w ≠ "either" ∧ w ≠ "try" ∧ w ≠ "if" := by decide
theorem pure_write_step {dp : Nat} (vs : List V) (H : Hp) (Q : VK) (E : XK) (h : (sp_write_step K dp) vs H Q E) : t_write_step K dp { nx := fun _ H' => Q .non H', rt := Q } (start ["step", "word", "block"] vs) H := by
  obtain ⟨v, s, rfl, hD, ok, hd, hl, k⟩ := h
  have plain : ∀ (a : Addr) (w : Str) (ws : List Str), v = .ref a → SqT K H a ((w :: ws).map V.str) → (w ≠ "loop" ∧ w ≠ "either" ∧ w ≠ "try" ∧ w ≠ "if") → s.txt = Txt.join " " (w :: ws) ++ ";" → t_write_step K dp { nx := fun _ H' => Q .non H', rt := Q } (start ["step", "word", "block"] [v]) H := by
    intro a w ws e hs hn et
    subst e
    rw [et, len_app] at hl
    refine q_setv (v := .str w) (ev_ixT (ev_var rfl) ev_c hs (atI_nat (j := 0) rfl)) fun H1 x1 => ?_
    refine q_unless (ev_var rfl) ev_c hn.1 fun H2 x2 => q_unless (ev_var rfl) ev_c hn.2.1 fun H3 x3 => q_unless (ev_var rfl) ev_c hn.2.2.1 fun H4 x4 => q_unless (ev_var rfl) ev_c hn.2.2.2 fun H5 x5 => ?_
    refine s_ret (ev_addSt (ev_joinR ev_c (ev_var rfl) (.inr (ex_t ((((x1.trans x2).trans x3).trans x4).trans x5) hs)) (by omega) (by decide)) ev_c (by omega)) fun H6 x6 => ?_
    rw [← et]
    exact k H6 (((((x1.trans x2).trans x3).trans x4).trans x5).trans x6)
  cases s with
  | word p n =>
    obtain ⟨a, rfl, hs⟩ := inv_word hD
    refine plain a p [n] rfl hs ?_ (by rw [Stp.txt])
    rw [Stp.ok] at ok
    rcases ok with h | h
    · exact word_not _ h.1
    · exact class_not _ h.1
  | bare p =>
    obtain ⟨a, rfl, hs⟩ := inv_bare hD
    rw [Stp.ok] at ok
    exact plain a p [] rfl hs (bare_not _ ok) (by rw [Stp.txt])
  | loop b =>
    obtain ⟨a, u, rfl, hs, hu⟩ := inv_loop hD
    rw [Stp.txt, len_app] at hl
    rw [Stp.ok] at ok
    rw [Stp.dep] at hd
    rw [Stp.txt] at k
    refine q_setv (v := .str "loop") (ev_ixT (ev_var rfl) ev_c hs rfl) fun H1 x1 => ?_
    refine q_then (ev_var rfl) ev_c rfl fun H2 x2 => ?_
    have x := x1.trans x2
    exact s_ret (ev_addSt ev_c (ev_wblock (ev_ixT (ev_var rfl) ev_c (ex_t x hs) rfl) (Bdy.mvt (KT.of x) b hu) ok (by omega) (by omega)) (by omega)) fun H3 x3 => k H3 (x.trans x3)
  | alt bs =>
    obtain ⟨a, u, rfl, hs, hu⟩ := inv_alt hD
    rw [Stp.txt, len_app] at hl
    rw [Stp.ok] at ok
    rw [Stp.dep] at hd
    rw [Stp.txt] at k
    refine q_setv (v := .str "either") (ev_ixT (ev_var rfl) ev_c hs rfl) fun H1 x1 => ?_
    refine q_unless (ev_var rfl) ev_c (by decide) fun H2 x2 => q_then (ev_var rfl) ev_c rfl fun H3 x3 => ?_
    have x := (x1.trans x2).trans x3
    obtain ⟨a2, xs, rfl, hs2, ha⟩ := inv_tup hu
    have hx := dp_len _ _ ha
    rw [bdats_list, List.length_map] at hx
    rw [bdats_list] at ha
    rw [blks_list] at hl k
    have hz : bs.list.length ≤ 40000 := by
      have e : (Txt.join " or " (bs.list.map Bdy.blk)).length = ((bs.list.map Bdy.blk).map (·.length)).sum + ((bs.list.map Bdy.blk).length - 1) * (" or " : Str).length := PySem.size_glued _ _
      rw [List.length_map] at e
      have e4 : (" or " : Str).length = 4 := by decide
      rw [e4] at e
      omega
    refine s_ret (ev_addSt ev_c (ev_joinL ev_c (el_lcTS (xs := xs) (bs.list.map Bdy.blk) (ev_ixT (ev_var rfl) ev_c (ex_t x hs) rfl) (ex_t x hs2) (by omega) (by rw [List.length_map]; exact hx) (fun _ => rfl) fun i y w G e hy hw => ?_) (by omega) (by decide)) (by omega)) fun H4 x4 => k H4 (x.trans x4)
    rw [List.getElem?_map] at hw
    cases hb : bs.list[i]? with
    | none => rw [hb] at hw; cases hw
    | some c =>
      rw [hb] at hw
      have ew : c.blk = w := Option.some.inj hw
      subst ew
      obtain ⟨d, hd1, hd2⟩ := dp_at _ _ i y ha hy
      rw [List.getElem?_map, hb] at hd1
      have ed : PyData.tuple c.dats = d := Option.some.inj hd1
      subst ed
      have hc := List.mem_of_getElem? hb
      have := bdep_list bs c hc
      have hm := join_mem (sep := " or ") (List.mem_map.mpr ⟨c, hc, rfl⟩ : c.blk ∈ bs.list.map Bdy.blk)
      exact ev_wblock (ev_var rfl) (Bdy.mvt (KT.of (x.trans e)) c hd2) (bok_list bs ok.2 c hc) (by omega) (by omega)
  | tri b c =>
    obtain ⟨a, u, w, rfl, hs, hu, hw⟩ := inv_tri hD
    rw [Stp.txt] at hl k
    simp only [len_app] at hl
    rw [Stp.ok] at ok
    rw [Stp.dep] at hd
    refine q_setv (v := .str "try") (ev_ixT (ev_var rfl) ev_c hs rfl) fun H1 x1 => ?_
    refine q_unless (ev_var rfl) ev_c (by decide) fun H2 x2 => q_unless (ev_var rfl) ev_c (by decide) fun H3 x3 => q_then (ev_var rfl) ev_c rfl fun H4 x4 => ?_
    have x := ((x1.trans x2).trans x3).trans x4
    refine s_ret (ev_addSt (ev_addSt (ev_addSt ev_c (ev_wblock (ev_ixT (ev_var rfl) ev_c (ex_t x hs) rfl) (Bdy.mvt (KT.of x) b hu) ok.1 (by omega) (by omega)) (by omega)) ev_c (by simp only [len_app]; omega)) (ev_wblock (ev_ixT (ev_var rfl) ev_c (ex_t x hs) rfl) (Bdy.mvt (KT.of x) c hw) ok.2 (by omega) (by omega)) (by simp only [len_app]; omega)) fun H5 x5 => k H5 (x.trans x5)
  | cond n b c =>
    obtain ⟨a, u, w, rfl, hs, hu, hw⟩ := inv_cond hD
    rw [Stp.txt] at hl k
    simp only [len_app] at hl
    rw [Stp.ok] at ok
    rw [Stp.dep] at hd
    refine q_setv (v := .str "if") (ev_ixT (ev_var rfl) ev_c hs rfl) fun H1 x1 => ?_
    refine q_unless (ev_var rfl) ev_c (by decide) fun H2 x2 => q_unless (ev_var rfl) ev_c (by decide) fun H3 x3 => q_unless (ev_var rfl) ev_c (by decide) fun H4 x4 => q_then (ev_var rfl) ev_c rfl fun H5 x5 => ?_
    have x := (((x1.trans x2).trans x3).trans x4).trans x5
    refine s_ret (ev_addSt (ev_addSt (ev_addSt (ev_addSt (ev_addSt ev_c (ev_ixT (ev_var rfl) ev_c (ex_t x hs) rfl) (by omega)) ev_c (by simp only [len_app]; omega)) (ev_wblock (ev_ixT (ev_var rfl) ev_c (ex_t x hs) rfl) (Bdy.mvt (KT.of x) b hu) ok.2.1 (by omega) (by omega)) (by simp only [len_app]; omega)) ev_c (by simp only [len_app]; omega)) (ev_wblock (ev_ixT (ev_var rfl) ev_c (ex_t x hs) rfl) (Bdy.mvt (KT.of x) c hw) ok.2.2 (by omega) (by omega)) (by simp only [len_app]; omega)) fun H6 x6 => k H6 (x.trans x6)
theorem steps_few (b : Bdy) (h : b.txt.length ≤ 30000) : b.steps.length ≤ 40000 := by
  have e : b.txt.length = ((b.steps.map Stp.txt).map (·.length)).sum + ((b.steps.map Stp.txt).length - 1) * (" " : Str).length := by
    unfold Bdy.txt
    rw [txts_list]
    exact PySem.size_glued _ _
  rw [List.length_map, show (" " : Str).length = 1 by decide] at e
  omega
theorem pure_write_steps {dp : Nat} (vs : List V) (H : Hp) (Q : VK) (E : XK) (h : (sp_write_steps K (dp + 1)) vs H Q E) : t_write_steps K dp { nx := fun _ H' => Q .non H', rt := Q } (start ["body", "step"] vs) H := by
  obtain ⟨v, b, rfl, hD, ok, hd, hl, k⟩ := h
  obtain ⟨a, xs, rfl, hs, ha⟩ := inv_tup hD
  have hx := dp_len _ _ ha
  rw [dats_list, List.length_map] at hx
  rw [dats_list] at ha
  have hz := steps_few b hl
  have et : b.txt = Txt.join " " (b.steps.map Stp.txt) := by unfold Bdy.txt; rw [txts_list]
  rw [et] at hl k
  refine s_ret (ev_joinL ev_c (el_lcTS (xs := xs) (b.steps.map Stp.txt) (ev_var rfl) hs (by omega) (by rw [List.length_map]; exact hx) (fun _ => rfl) fun i y w G e hy hw => ?_) (by omega) (by decide)) k
  rw [List.getElem?_map] at hw
  cases hb : b.steps[i]? with
  | none => rw [hb] at hw; cases hw
  | some c =>
    rw [hb] at hw
    have ew : c.txt = w := Option.some.inj hw
    subst ew
    obtain ⟨d, hd1, hd2⟩ := dp_at _ _ i y ha hy
    rw [List.getElem?_map, hb] at hd1
    have ed : c.dat = d := Option.some.inj hd1
    subst ed
    have hc := List.mem_of_getElem? hb
    have := dep_list b c hc
    have hm := join_mem (sep := " ") (List.mem_map.mpr ⟨c, hc, rfl⟩ : c.txt ∈ b.steps.map Stp.txt)
    exact ev_call (ea_cons (ev_var rfl) ea_nil) fun H1 e1 Q q _ => ⟨y, c, rfl, Stp.mv (KT.of (e.trans e1)) c y hd2, ok_list b ok c hc, by omega, by omega, q⟩
end
end Ef

namespace Ef
open PySem PySem.Spec PyProof.Rows L2 Evl
/-! shapes: texts of plain signs, not deep -/
theorem fitsW_asc {n : Str} (h : fitsW n = true) : Asc n := by
  unfold fitsW at h
  simp only [Bool.and_eq_true, List.all_eq_true, decide_eq_true_eq] at h
  have q : ∀ c ∈ smalls.cps.toList, c < 128 := by decide +kernel
  exact fun c hc => q c (h.2.2 c hc)
theorem fitsC_asc {n : Str} (h : fitsC n = true) : Asc n := by
  unfold fitsC at h
  rw [Bool.and_eq_true] at h
  have h2 := h.2
  have q : ∀ c ∈ smalls.cps.toList, c < 128 := by decide +kernel
  have q2 : ∀ c ∈ larges.cps.toList, c < 128 := by decide +kernel
  split at h2
  · cases h2
  · rename_i c r hc
    simp only [Bool.and_eq_true, List.all_eq_true, decide_eq_true_eq] at h2
    intro d hd
    rw [hc] at hd
    rcases List.mem_cons.mp hd with rfl | hd
    · exact q2 _ h2.1
    · exact q _ (h2.2 _ hd)
theorem word_asc : ∀ w ∈ wordSteps, Asc w := by decide +kernel
theorem class_asc : ∀ w ∈ classSteps, Asc w := by decide +kernel
theorem bare_asc : ∀ w ∈ bareSteps, Asc w := by decide +kernel
theorem nest_asc : ∀ w ∈ nestedSteps, Asc w := by decide +kernel
mutual
theorem Stp.lay : ∀ s : Stp, s.ok → PyData.canLay0 s.dat = true
  | .word p n, h => by
    rw [Stp.ok] at h
    have hp : PyData.strOk p = true := strOk_asc (by rcases h with h | h; exact word_asc _ h.1; exact class_asc _ h.1)
    have hn : PyData.strOk n = true := strOk_asc (by rcases h with h | h; exact fitsW_asc h.2; exact fitsC_asc h.2)
    rw [Stp.dat]
    simp only [PyData.canLay0, PyData.canLayAll0, hp, hn, Bool.and_self]
  | .bare p, h => by
    rw [Stp.ok] at h
    have hp : PyData.strOk p = true := strOk_asc (bare_asc _ h)
    rw [Stp.dat]
    simp only [PyData.canLay0, PyData.canLayAll0, hp, Bool.and_self]
  | .loop b, h => by
    rw [Stp.ok] at h
    have hp : PyData.strOk "loop" = true := strOk_asc (nest_asc _ (by decide))
    rw [Stp.dat]
    simp only [PyData.canLay0, PyData.canLayAll0, hp, Bdy.lay b h, Bool.and_self]
  | .cond n b c, h => by
    rw [Stp.ok] at h
    have hp : PyData.strOk "if" = true := strOk_asc (nest_asc _ (by decide))
    have hn : PyData.strOk n = true := strOk_asc (fitsW_asc h.1)
    rw [Stp.dat]
    simp only [PyData.canLay0, PyData.canLayAll0, hp, hn, Bdy.lay b h.2.1, Bdy.lay c h.2.2, Bool.and_self]
  | .tri b c, h => by
    rw [Stp.ok] at h
    have hp : PyData.strOk "try" = true := strOk_asc (nest_asc _ (by decide))
    rw [Stp.dat]
    simp only [PyData.canLay0, PyData.canLayAll0, hp, Bdy.lay b h.1, Bdy.lay c h.2, Bool.and_self]
  | .alt bs, h => by
    rw [Stp.ok] at h
    have hp : PyData.strOk "either" = true := strOk_asc (nest_asc _ (by decide))
    rw [Stp.dat]
    simp only [PyData.canLay0, PyData.canLayAll0, hp, Bds.lay bs h.2, Bool.and_self]
theorem Bdy.lay : ∀ b : Bdy, b.ok → PyData.canLayAll0 b.dats = true
  | .nil, _ => by rw [Bdy.dats]; simp only [PyData.canLayAll0]
  | .cons s b, h => by
    rw [Bdy.ok] at h
    rw [Bdy.dats]
    simp only [PyData.canLayAll0, Stp.lay s h.1, Bdy.lay b h.2, Bool.and_self]
theorem Bds.lay : ∀ b : Bds, b.ok → PyData.canLayAll0 b.dats = true
  | .nil, _ => by rw [Bds.dats]; simp only [PyData.canLayAll0]
  | .cons b bs, h => by
    rw [Bds.ok] at h
    rw [Bds.dats]
    simp only [PyData.canLayAll0, PyData.canLay0, Bdy.lay b h.1, Bds.lay bs h.2, Bool.and_self]
end
mutual
theorem Stp.low : ∀ s : Stp, s.dat.depth ≤ 3 * s.dep + 1
  | .word p n => by rw [Stp.dat]; simp only [PyData.depth, PyData.depthAll]; omega
  | .bare p => by rw [Stp.dat]; simp only [PyData.depth, PyData.depthAll]; omega
  | .loop b => by
    have := Bdy.low b
    rw [Stp.dat, Stp.dep]; simp only [PyData.depth, PyData.depthAll]; omega
  | .cond n b c => by
    have := Bdy.low b
    have := Bdy.low c
    rw [Stp.dat, Stp.dep]; simp only [PyData.depth, PyData.depthAll]; omega
  | .tri b c => by
    have := Bdy.low b
    have := Bdy.low c
    rw [Stp.dat, Stp.dep]; simp only [PyData.depth, PyData.depthAll]; omega
  | .alt bs => by
    have := Bds.low bs
    rw [Stp.dat, Stp.dep]; simp only [PyData.depth, PyData.depthAll]; omega
theorem Bdy.low : ∀ b : Bdy, PyData.depthAll b.dats ≤ 3 * b.dep + 1
  | .nil => by rw [Bdy.dats]; simp only [PyData.depthAll]; omega
  | .cons s b => by
    have := Stp.low s
    have := Bdy.low b
    rw [Bdy.dats, Bdy.dep]; simp only [PyData.depthAll]; omega
theorem Bds.low : ∀ b : Bds, PyData.depthAll b.dats ≤ 3 * b.dep + 2
  | .nil => by rw [Bds.dats]; simp only [PyData.depthAll]; omega
  | .cons b bs => by
    have := Bdy.low b
    have := Bds.low bs
    rw [Bds.dats, Bds.dep]; simp only [PyData.depth, PyData.depthAll]; omega
end
theorem shaped_body {b : Bdy} (h : b.ok) (hd : b.dep ≤ 20) : SeqAt.shaped (.tuple b.dats) = true := by
  unfold SeqAt.shaped
  rw [Bool.and_eq_true]
  refine ⟨by simp only [PyData.canLay0]; exact Bdy.lay b h, decide_eq_true ?_⟩
  have := Bdy.low b
  simp only [PyData.depth]
  omega
theorem shaped_nilT : SeqAt.shaped (.tuple []) = true := by decide +kernel
theorem eqv_nilT (ds : List PyData) : PyData.eqv (.tuple ds) (.tuple []) = ds.isEmpty := by
  cases ds <;> simp [PyData.eqv, PyData.eqvAll]
section
variable {K : PySem.W.Frag} {σ : L2.St} {H H1 G : Hp} {ta tb te tl : TE} {v : V} {p : Addr}
theorem pure__law_block {dp : Nat} (vs : List V) (H : Hp) (Q : VK) (E : XK) (h : (sp_write_block K dp) vs H Q E) : t__law_block K dp { nx := fun _ H' => Q .non H', rt := Q } (start ["_law_body_here"] vs) H := by
  obtain ⟨v, b, rfl, hD, ok, hd, hl, k⟩ := h
  have sh := shaped_body ok (by omega)
  refine s_ret (ev_if (et_test (ev_opU (z := .bl b.dats.isEmpty) (ev_var rfl) (eu_tup ea_nil (by decide)) fun q G hq x => fun H1 x1 Q q => ⟨_, _, Bdy.mvt (KT.of (x.trans x1)) b hD, .tup (st_of (x1 _ _ hq)) .nil, sh, shaped_nilT, by rw [eqv_nilT]; exact q H1 (Evl.Ex.refl H1)⟩)) (fun e => ?_) (fun e => ?_)) k
  · cases b with
    | nil => rw [Bdy.blk]; exact ev_c
    | cons s b => rw [Bdy.dats] at e; cases e
  · cases b with
    | nil => rw [Bdy.dats] at e; cases e
    | cons s b =>
      rw [blk_cons, len_app, len_app] at hl
      rw [blk_cons]
      exact ev_addSt (ev_addSt ev_c (ev_wsteps (ev_var rfl) hD ok hd (by omega)) (by omega)) ev_c (by rw [len_app]; omega)
theorem join2 (s a b : Str) : Txt.join s [a, b] = a ++ s ++ b := by
  have e : Txt.join s [a, b] = Str.join s [a, b] := PySem.StrLaws.glued_eq_join s [a, b]
  rw [e]; rfl
theorem app_assoc (a b c : Str) : a ++ b ++ c = a ++ (b ++ c) := TL.ext_tl (by simp only [TL.tl_append, List.append_assoc])
theorem but_ktl {xs : List V} (x : But p G H1) (hp : G p = some (.lst xs)) : KT K G H1 := fun a zs h => by
  have q : ∀ o, G a = some o → (∀ z, o ≠ .lst z) → H1 a = some o := fun o ho hn => x a o (fun e => by subst e; rw [hp] at ho; exact hn _ (Option.some.inj ho).symm) ho
  rcases h with (h | ⟨o, h⟩) | h
  · exact .inl (.inl (q _ h (fun _ e => nomatch e)))
  · exact .inl (.inr ⟨o, q _ h (fun _ e => nomatch e)⟩)
  · exact .inr h
theorem el_listT {a : Addr} {xs : List V} (h : Ev te σ H (.ref a)) (hs : SqT K H a xs) : EvL (tCB (rListOf K) (tCons te tNil)) σ H xs :=
  el_cb (ea_cons h ea_nil) fun H1 e Q q => ⟨a, xs, rfl, .inr (ex_t e hs), fun l hl => q l _ hl (Evl.Ex.new hl) upd_same⟩
def w_step (K : PySem.W.Frag) (dp : Nat) : TS := tIfS (tTest (tOp rEq (tOp (rIxT K) (tVar 2) (tC (.int 0))) (tC (.str "loop")))) (tDrop (tBM K "list" rAppend (tVar 1) (tCons (tOp rAddSt (tC (.str "loop ")) (tCall (sp_write_block K dp) [] E0 (tCons (tOp (rIxT K) (tVar 2) (tC (.int 1))) tNil))) tNil))) (tIfS (tTest (tOp rEq (tOp (rIxT K) (tVar 2) (tC (.int 0))) (tC (.str "if")))) (tSeq (tAsg (tLst (tCons (tCall (sp_write_block K dp) [] E0 (tCons (tOp (rIxT K) (tVar 2) (tC (.int 2))) tNil)) (tCons (tCall (sp_write_block K dp) [] E0 (tCons (tOp (rIxT K) (tVar 2) (tC (.int 3))) tNil)) tNil))) (gName 3)) (tDrop (tBM K "list" rAppend (tVar 1) (tCons (tOp rAddSt (tOp rAddSt (tOp rAddSt (tC (.str "if ")) (tOp (rIxT K) (tVar 2) (tC (.int 1)))) (tC (.str " "))) (tM1 (rJoinS K) (tC (.str " else ")) (tVar 3))) tNil)))) (tIfS (tTest (tOp rEq (tOp (rIxT K) (tVar 2) (tC (.int 0))) (tC (.str "try")))) (tDrop (tBM K "list" rAppend (tVar 1) (tCons (tOp rAddSt (tC (.str "try ")) (tM1 (rJoinS K) (tC (.str " catch ")) (tLst (tCons (tCall (sp_write_block K dp) [] E0 (tCons (tOp (rIxT K) (tVar 2) (tC (.int 1))) tNil)) (tCons (tCall (sp_write_block K dp) [] E0 (tCons (tOp (rIxT K) (tVar 2) (tC (.int 2))) tNil)) tNil))))) tNil))) (tIfS (tTest (tOp rEq (tOp (rIxT K) (tVar 2) (tC (.int 0))) (tC (.str "either")))) (tDrop (tBM K "list" rAppend (tVar 1) (tCons (tOp rAddSt (tC (.str "either ")) (tM1 (rJoinS K) (tC (.str " or ")) (tLc (iTup K (tOp (rIxT K) (tVar 2) (tC (.int 1)))) (gName 4) tYes (tCall (sp_write_block K dp) [] E0 (tCons (tVar 4) tNil)) [4]))) tNil))) (tDrop (tBM K "list" rAppend (tVar 1) (tCons (tOp rAddSt (tM1 (rJoinS K) (tC (.str " ")) (tCB (rListOf K) (tCons (tVar 2) tNil))) (tC (.str ";"))) tNil))))))
/-- one step's text is put into the list at p -/
theorem written_step {dp : Nat} {D : Ends} {s : Stp} {y : V} {v0 v3 v4 : Option V} {xs : List V} (hD : Dp K G y s.dat) (ok : s.ok) (hd : s.dep ≤ dp ∧ dp ≤ 9) (hl : s.txt.length ≤ 30000) (hp : G p = some (.lst xs)) (hx : xs.length < 100000)
    (k : ∀ G' v3', But p G G' → G' p = some (.lst (xs ++ [.str s.txt])) → D.nx [v0, some (.ref p), some y, v3', v4] G') :
    w_step K dp D [v0, some (.ref p), some y, v3, v4] G := by
  have fin : ∀ G1 v3', Evl.Ex G G1 → D.nx [v0, some (.ref p), some y, v3', v4] (upd G1 p (.lst (xs ++ [.str s.txt]))) := fun G1 v3' e => k _ v3' ((But.of e).upd) upd_same
  have plain : ∀ (a : Addr) (w : Str) (ws : List Str), y = .ref a → SqT K G a ((w :: ws).map V.str) → (w ≠ "loop" ∧ w ≠ "either" ∧ w ≠ "try" ∧ w ≠ "if") → s.txt = Txt.join " " (w :: ws) ++ ";" → w_step K dp D [v0, some (.ref p), some y, v3, v4] G := by
    intro a w ws e hs hn et
    subst e
    rw [et, len_app] at hl
    have e0 : ∀ G1, Evl.Ex G G1 → Ev (tOp (rIxT K) (tVar 2) (tC (.int 0))) [v0, some (.ref p), some (.ref a), v3, v4] G1 (.str w) := fun G1 x => ev_ixT (ev_var rfl) ev_c (ex_t x hs) (atI_nat (j := 0) rfl)
    refine s_unless (e0 _ (Evl.Ex.refl G)) ev_c hn.1 fun H2 x2 => s_unless (e0 _ x2) ev_c hn.2.2.2 fun H3 x3 => s_unless (e0 _ (x2.trans x3)) ev_c hn.2.2.1 fun H4 x4 => s_unless (e0 _ ((x2.trans x3).trans x4)) ev_c hn.2.1 fun H5 x5 => ?_
    have x := ((x2.trans x3).trans x4).trans x5
    refine s_app (x _ _ hp) (ev_var rfl) (ev_addSt (ev_joinL ev_c (el_listT (ev_var rfl) (ex_t x hs)) (by omega) (by decide)) ev_c (by omega)) hx fun H6 x6 => ?_
    rw [← et]
    exact fin _ _ (x.trans x6)
  cases s with
  | word q n =>
    obtain ⟨a, rfl, hs⟩ := inv_word hD
    refine plain a q [n] rfl hs ?_ (by rw [Stp.txt])
    rw [Stp.ok] at ok
    rcases ok with h | h
    · exact word_not _ h.1
    · exact class_not _ h.1
  | bare q =>
    obtain ⟨a, rfl, hs⟩ := inv_bare hD
    rw [Stp.ok] at ok
    exact plain a q [] rfl hs (bare_not _ ok) (by rw [Stp.txt])
  | loop b =>
    obtain ⟨a, u, rfl, hs, hu⟩ := inv_loop hD
    rw [Stp.txt] at fin
    rw [Stp.txt, len_app] at hl
    rw [Stp.ok] at ok
    rw [Stp.dep] at hd
    refine s_then (ev_ixT (ev_var rfl) ev_c hs rfl) ev_c rfl fun H2 x => ?_
    exact s_app (x _ _ hp) (ev_var rfl) (ev_addSt ev_c (ev_wblock (ev_ixT (ev_var rfl) ev_c (ex_t x hs) rfl) (Bdy.mvt (KT.of x) b hu) ok (by omega) (by omega)) (by omega)) hx fun H3 x3 => fin _ _ (x.trans x3)
  | cond n b c =>
    obtain ⟨a, u, w, rfl, hs, hu, hw⟩ := inv_cond hD
    have et : Stp.txt (.cond n b c) = "if " ++ n ++ " " ++ Txt.join " else " [b.blk, c.blk] := by
      rw [Stp.txt, join2]
      simp only [app_assoc]
    have hl2 := hl
    rw [Stp.txt] at hl2
    simp only [len_app] at hl2
    rw [et] at fin hl
    simp only [len_app] at hl
    rw [Stp.ok] at ok
    rw [Stp.dep] at hd
    have e0 : ∀ G1, Evl.Ex G G1 → Ev (tOp (rIxT K) (tVar 2) (tC (.int 0))) [v0, some (.ref p), some (.ref a), v3, v4] G1 (.str "if") := fun G1 x => ev_ixT (ev_var rfl) ev_c (ex_t x hs) rfl
    refine s_unless (e0 _ (Evl.Ex.refl G)) ev_c (by decide) fun H1 x1 => s_then (e0 _ x1) ev_c rfl fun H2 x2 => ?_
    have x := x1.trans x2
    refine q_asgL (el_lst (ea_cons (ev_wblock (b := b) (ev_ixT (ev_var rfl) ev_c (ex_t x hs) rfl) (Bdy.mvt (KT.of x) b hu) ok.2.1 (by omega) (by omega)) (ea_cons (ev_wblock (b := c) (ev_ixT (ev_var rfl) ev_c (ex_t x hs) rfl) (Bdy.mvt (KT.of x) c hw) ok.2.2 (by omega) (by omega)) ea_nil)) (by show 2 ≤ 100000; decide)) fun q H3 hq x3 h3 => ?_
    have y := x.trans x3
    exact s_app (y _ _ hp) (ev_var rfl) (ev_addSt (ev_addSt (ev_addSt ev_c (ev_ixT (ev_var rfl) ev_c (ex_t y hs) rfl) (by omega)) ev_c (by simp only [len_app]; omega)) (ev_joinR (ys := [b.blk, c.blk]) ev_c (ev_var rfl) (.inl (sq_of h3)) (by omega) (by decide)) (by simp only [len_app]; omega)) hx fun H4 x4 => fin _ _ (y.trans x4)
  | tri b c =>
    obtain ⟨a, u, w, rfl, hs, hu, hw⟩ := inv_tri hD
    have et : Stp.txt (.tri b c) = "try " ++ Txt.join " catch " [b.blk, c.blk] := by
      rw [Stp.txt, join2]
      simp only [app_assoc]
    have hl2 := hl
    rw [Stp.txt] at hl2
    simp only [len_app] at hl2
    rw [et] at fin hl
    simp only [len_app] at hl
    rw [Stp.ok] at ok
    rw [Stp.dep] at hd
    have e0 : ∀ G1, Evl.Ex G G1 → Ev (tOp (rIxT K) (tVar 2) (tC (.int 0))) [v0, some (.ref p), some (.ref a), v3, v4] G1 (.str "try") := fun G1 x => ev_ixT (ev_var rfl) ev_c (ex_t x hs) rfl
    refine s_unless (e0 _ (Evl.Ex.refl G)) ev_c (by decide) fun H1 x1 => s_unless (e0 _ x1) ev_c (by decide) fun H2 x2 => s_then (e0 _ (x1.trans x2)) ev_c rfl fun H3 x3 => ?_
    have x := (x1.trans x2).trans x3
    exact s_app (x _ _ hp) (ev_var rfl) (ev_addSt ev_c (ev_joinL (ys := [b.blk, c.blk]) ev_c (el_lst (ea_cons (ev_wblock (b := b) (ev_ixT (ev_var rfl) ev_c (ex_t x hs) rfl) (Bdy.mvt (KT.of x) b hu) ok.1 (by omega) (by omega)) (ea_cons (ev_wblock (b := c) (ev_ixT (ev_var rfl) ev_c (ex_t x hs) rfl) (Bdy.mvt (KT.of x) c hw) ok.2 (by omega) (by omega)) ea_nil)) (by show 2 ≤ 100000; decide)) (by omega) (by decide)) (by omega)) hx fun H4 x4 => fin _ _ (x.trans x4)
  | alt bs =>
    obtain ⟨a, u, rfl, hs, hu⟩ := inv_alt hD
    rw [Stp.txt] at fin
    rw [Stp.txt, len_app] at hl
    rw [Stp.ok] at ok
    rw [Stp.dep] at hd
    have e0 : ∀ G1, Evl.Ex G G1 → Ev (tOp (rIxT K) (tVar 2) (tC (.int 0))) [v0, some (.ref p), some (.ref a), v3, v4] G1 (.str "either") := fun G1 x => ev_ixT (ev_var rfl) ev_c (ex_t x hs) rfl
    refine s_unless (e0 _ (Evl.Ex.refl G)) ev_c (by decide) fun H1 x1 => s_unless (e0 _ x1) ev_c (by decide) fun H2 x2 => s_unless (e0 _ (x1.trans x2)) ev_c (by decide) fun H3 x3 => s_then (e0 _ ((x1.trans x2).trans x3)) ev_c rfl fun H4 x4 => ?_
    have x := ((x1.trans x2).trans x3).trans x4
    obtain ⟨a2, zs, rfl, hs2, ha⟩ := inv_tup hu
    have hz := dp_len _ _ ha
    rw [bdats_list, List.length_map] at hz
    rw [bdats_list] at ha
    rw [blks_list] at hl fin
    have hz4 : bs.list.length ≤ 40000 := by
      have e : (Txt.join " or " (bs.list.map Bdy.blk)).length = ((bs.list.map Bdy.blk).map (·.length)).sum + ((bs.list.map Bdy.blk).length - 1) * (" or " : Str).length := PySem.size_glued _ _
      rw [List.length_map] at e
      have e4 : (" or " : Str).length = 4 := by decide
      rw [e4] at e
      omega
    refine s_app (x _ _ hp) (ev_var rfl) (ev_addSt ev_c (ev_joinL ev_c (el_lcTS (xs := zs) (bs.list.map Bdy.blk) (ev_ixT (ev_var rfl) ev_c (ex_t x hs) rfl) (ex_t x hs2) (by omega) (by rw [List.length_map]; exact hz) (fun _ => rfl) fun i y w G e hy hw => ?_) (by omega) (by decide)) (by omega)) hx fun H5 x5 => fin _ _ (x.trans x5)
    rw [List.getElem?_map] at hw
    cases hb : bs.list[i]? with
    | none => rw [hb] at hw; cases hw
    | some c =>
      rw [hb] at hw
      have ew : c.blk = w := Option.some.inj hw
      subst ew
      obtain ⟨d, hd1, hd2⟩ := dp_at _ _ i y ha hy
      rw [List.getElem?_map, hb] at hd1
      have ed : PyData.tuple c.dats = d := Option.some.inj hd1
      subst ed
      have hc := List.mem_of_getElem? hb
      have := bdep_list bs c hc
      have hm := join_mem (sep := " or ") (List.mem_map.mpr ⟨c, hc, rfl⟩ : c.blk ∈ bs.list.map Bdy.blk)
      exact ev_wblock (ev_var rfl) (Bdy.mvt (KT.of (x.trans e)) c hd2) (bok_list bs ok.2 c hc) (by omega) (by omega)
theorem pure__law_written {dp : Nat} (vs : List V) (H : Hp) (Q : VK) (E : XK) (h : (sp_write_steps K (dp + 1)) vs H Q E) : t__law_written K dp { nx := fun _ H' => Q .non H', rt := Q } (start ["_law_body_here", "_law_found", "_law_step_here", "_law_both", "_law_block_here"] vs) H := by
  obtain ⟨v, b, rfl, hD, ok, hd, hl, k⟩ := h
  obtain ⟨a, xs, rfl, hs, ha⟩ := inv_tup hD
  have hx := dp_len _ _ ha
  rw [dats_list, List.length_map] at hx
  rw [dats_list] at ha
  have hz := steps_few b hl
  have et : b.txt = Txt.join " " (b.steps.map Stp.txt) := by unfold Bdy.txt; rw [txts_list]
  rw [et] at hl k
  refine q_asgL (el_lst ea_nil (by decide)) fun p H1 hp x1 h1 => ?_
  refine q_forT (xs := xs) (ev_var rfl) (ex_t x1 hs) (fun i σ G => ∃ v2 v3, σ = [some (.ref a), some (.ref p), v2, v3, none] ∧ Evl.Ex H G ∧ G p = some (.lst (((b.steps.take i).map Stp.txt).map V.str))) (fun H2 x2 => ⟨none, none, rfl, x1.trans x2, x2 _ _ h1⟩) ?_ ?_ ?_
  · rintro i σ G _ ⟨v2, v3, rfl, xg, _⟩
    exact ex_t xg hs
  · rintro i y σ G hy ⟨v2, v3, rfl, xg, hg⟩
    obtain ⟨d, hd1, hd2⟩ := dp_at _ _ i y ha hy
    rw [List.getElem?_map] at hd1
    cases hb : b.steps[i]? with
    | none => rw [hb] at hd1; cases hd1
    | some c =>
      rw [hb] at hd1
      have ed : c.dat = d := Option.some.inj hd1
      subst ed
      have hc := List.mem_of_getElem? hb
      have := dep_list b c hc
      have hm := join_mem (sep := " ") (List.mem_map.mpr ⟨c, hc, rfl⟩ : c.txt ∈ b.steps.map Stp.txt)
      refine written_step (dp := dp) (Stp.mv (KT.of xg) c y hd2) (ok_list b ok c hc) (by omega) (by omega) hg (by simp only [List.length_map, List.length_take]; omega) fun G' v3' hb' hg' => ⟨_, _, rfl, (((But.of xg).trans hb').ex hp), ?_⟩
      rw [hg', take_succ hb, List.map_append, List.map_append]
      rfl
  · rintro σ G ⟨v2, v3, rfl, xg, hg⟩
    rw [hx, List.take_length] at hg
    exact s_ret (ev_joinR ev_c (ev_var rfl) (.inl (sq_of hg)) (by omega) (by decide)) fun G2 x2 => k G2 (xg.trans x2)
end
end Ef

namespace Ef
open PySem PySem.Spec PyProof.Rows L2 Evl
/-- the tokens of blocks with a word ahead of each -/
def altT (w : Str) : List Bdy → List Str
  | [] => []
  | b :: r => w :: (curl b.toks ++ altT "or" r)
theorem altT_list : ∀ (bs : Bds) (w : Str), bs.toks w = altT w bs.list
  | .nil, w => by rw [Bds.toks, Bds.list, altT]
  | .cons b bs, w => by rw [Bds.toks, Bds.list, altT, altT_list bs]
theorem altT_snoc (b : Bdy) : ∀ (l : List Bdy) (w : Str), altT w (l ++ [b]) = altT w l ++ ((if l.length = 0 then w else "or") :: curl b.toks)
  | [], w => by simp [altT]
  | c :: r, w => by
    have ih := altT_snoc b r "or"
    rw [List.cons_append, altT, altT, ih]
    have : (if r.length = 0 then ("or" : Str) else "or") = "or" := by split <;> rfl
    rw [this, List.length_cons, if_neg (by omega), List.cons_append, List.append_assoc]
theorem altT_pre : ∀ (l r : List Bdy) (w : Str), (altT w l).length ≤ (altT w (l ++ r)).length
  | [], r, w => Nat.zero_le _
  | c :: l, r, w => by
    have ih := altT_pre l r "or"
    rw [List.cons_append, altT, altT, List.length_cons, List.length_cons, List.length_append, List.length_append]
    omega
section
variable {K : PySem.W.Frag} {σ : L2.St} {H H1 G : Hp} {ta tb te tl : TE} {v : V} {p : Addr}
theorem len__law_signs {dp : Nat} {vs : List V} {Q : VK} {E : XK} (h : (sp_signs K dp) vs H Q E) : vs.length = 1 := by
  obtain ⟨v, b, _, _, _, _, rfl, _⟩ := h; rfl
theorem len__law_curly {dp : Nat} {vs : List V} {Q : VK} {E : XK} (h : (sp_curly K dp) vs H Q E) : vs.length = 1 := by
  obtain ⟨v, b, _, _, _, _, rfl, _⟩ := h; rfl
theorem el_cat {xs ys : List V} (ha : EvL ta σ H xs) (hb : EvL tb σ H ys) (hl : xs.length + ys.length ≤ 100000) : EvL (tOp rCat ta tb) σ H (xs ++ ys) := fun H1 e Q q =>
  ha H1 e _ fun p H2 hp e2 h2 => hb H2 (e.trans e2) _ fun p2 H3 hp2 e3 h3 => ⟨p, p2, xs, ys, rfl, rfl, e3 _ _ h2, h3, sz_of hl, fun p3 hp3 => q p3 _ (fresh_back (e2.trans e3) hp3) ((e2.trans e3).trans (Evl.Ex.new hp3)) upd_same⟩
theorem el_is {xs ys : List V} (h : EvL te σ H xs) (e : xs = ys) : EvL te σ H ys := by subst e; exact h
theorem s_ext {l : Addr} {xs ys : List V} {D : Ends} (hl : H l = some (.lst xs)) (ha : Ev ta σ H (.ref l)) (h : EvL te σ H ys) (hz : xs.length + ys.length ≤ 100000) (k : ∀ H1, Evl.Ex H H1 → D.nx σ (upd H1 l (.lst (xs ++ ys)))) :
    tDrop (tBM K "list" rExtend ta (tCons te tNil)) D σ H := ha H (Evl.Ex.refl H) _ fun H1 e1 =>
  ⟨Or.inl ⟨rfl, xs, sq_of (e1 l _ hl)⟩, h H1 e1 _ fun p H2 hp e2 h2 => ⟨l, p, xs, ys, rfl, rfl, e2 l _ (e1 l _ hl), h2, sz_of hz, k H2 (e1.trans e2)⟩⟩
theorem el_curly {dp : Nat} {b : Bdy} {u : V} {E : XK} (h : Ev te σ H u) (hu : Dp K H u (.tuple b.dats)) (ok : b.ok) (hd : b.dep < dp) (hl : b.toks.length ≤ 10000) : EvL (tCall (sp_curly K dp) [] E (tCons te tNil)) σ H ((curl b.toks).map V.str) :=
  el_call (ea_cons h ea_nil) fun H1 e Q q _ => ⟨u, b, Bdy.mvt (KT.of e) b hu, ok, hd, hl, rfl, fun H' p x hp h1 => q p H' hp x h1⟩
theorem pure__law_curly {dp : Nat} (vs : List V) (H : Hp) (Q : VK) (E : XK) (h : (sp_curly K dp) vs H Q E) : t__law_curly K dp { nx := fun _ H' => Q .non H', rt := Q } (start ["_law_body_here"] vs) H := by
  obtain ⟨v, b, hD, ok, hd, hl, rfl, k⟩ := h
  refine s_retL (el_is (el_cat (el_cat (el_lst (ea_cons ev_c ea_nil) (by show 1 ≤ 100000; decide)) (el_call (xs := b.toks.map V.str) (ea_cons (ev_var rfl) ea_nil) fun H1 e Q q _ => ⟨v, b, Bdy.mvt (KT.of e) b hD, ok, hd, hl, rfl, fun H' p x hp h1 => q p H' hp x h1⟩) (by rw [List.length_map]; show 1 + _ ≤ _; omega)) (el_lst (ea_cons ev_c ea_nil) (by show 1 ≤ 100000; decide)) (by rw [List.length_append, List.length_map]; show 1 + _ + 1 ≤ _; omega)) (ys := (curl b.toks).map V.str) (by unfold curl; simp)) fun p H1 hp x h1 => k H1 p x hp h1
def x_step (K : PySem.W.Frag) (dp : Nat) : TS := tIfS (tTest (tOp rEq (tOp (rIxT K) (tVar 2) (tC (.int 0))) (tC (.str "loop")))) (tDrop (tBM K "list" rExtend (tVar 1) (tCons (tOp rCat (tLst (tCons (tC (.str "loop")) tNil)) (tCall (sp_curly K dp) [] E0 (tCons (tOp (rIxT K) (tVar 2) (tC (.int 1))) tNil))) tNil))) (tIfS (tTest (tOp rEq (tOp (rIxT K) (tVar 2) (tC (.int 0))) (tC (.str "if")))) (tDrop (tBM K "list" rExtend (tVar 1) (tCons (tOp rCat (tOp rCat (tOp rCat (tLst (tCons (tC (.str "if")) (tCons (tOp (rIxT K) (tVar 2) (tC (.int 1))) tNil))) (tCall (sp_curly K dp) [] E0 (tCons (tOp (rIxT K) (tVar 2) (tC (.int 2))) tNil))) (tLst (tCons (tC (.str "else")) tNil))) (tCall (sp_curly K dp) [] E0 (tCons (tOp (rIxT K) (tVar 2) (tC (.int 3))) tNil))) tNil))) (tIfS (tTest (tOp rEq (tOp (rIxT K) (tVar 2) (tC (.int 0))) (tC (.str "try")))) (tDrop (tBM K "list" rExtend (tVar 1) (tCons (tOp rCat (tOp rCat (tOp rCat (tLst (tCons (tC (.str "try")) tNil)) (tCall (sp_curly K dp) [] E0 (tCons (tOp (rIxT K) (tVar 2) (tC (.int 1))) tNil))) (tLst (tCons (tC (.str "catch")) tNil))) (tCall (sp_curly K dp) [] E0 (tCons (tOp (rIxT K) (tVar 2) (tC (.int 2))) tNil))) tNil))) (tIfS (tTest (tOp rEq (tOp (rIxT K) (tVar 2) (tC (.int 0))) (tC (.str "either")))) (tFor (iEnumT K (tCons (tOp (rIxT K) (tVar 2) (tC (.int 1))) tNil)) (gTup K 2 (gCons (gName 3) (gCons (gName 4) gNil))) (tDrop (tBM K "list" rExtend (tVar 1) (tCons (tOp rCat (tLst (tCons (tIf (tTest (tOp rEq (tVar 3) (tC (.int 0)))) (tC (.str "either")) (tC (.str "or"))) tNil)) (tCall (sp_curly K dp) [] E0 (tCons (tVar 4) tNil))) tNil)))) (tDrop (tBM K "list" rExtend (tVar 1) (tCons (tOp rCat (tCB (rListOf K) (tCons (tVar 2) tNil)) (tLst (tCons (tC (.str ";")) tNil))) tNil))))))
theorem s_forET {at' : TA} {a : Addr} {xs : List V} {g : TG} {tu : TS} {D : Ends} (h : EvA at' σ H [.ref a]) (hx : SqT K H a xs) (Pv : Nat → L2.St → Hp → Prop) (h0 : ∀ H1, Evl.Ex H H1 → Pv 0 σ H1) (hl : ∀ i σ H, i ≤ xs.length → Pv i σ H → SqT K H a xs)
    (hs : ∀ i x σ H H', i < xs.length → Pv i σ H → YPair (fun i => some (.int (i : Nat))) (fun i => xs[i]?) i H x H' → g x σ H' fun σ2 H2 => tu { D with nx := Pv (i + 1), ct := Pv (i + 1), bk := D.nx } σ2 H2) (hd : ∀ σ H, Pv xs.length σ H → D.nx σ H) : tFor (iEnumT K at') g tu D σ H :=
  h H (Evl.Ex.refl H) _ fun H1 e => ⟨a, xs, rfl, ex_t e hx, for_it (walk_enumT (xs := xs)) Pv (h0 H1 e) hl hs hd⟩
theorem curl_len (l : List Str) : (curl l).length = l.length + 2 := by unfold curl; simp
/-- one step's tokens are put into the list at p -/
theorem signs_step {dp : Nat} {D : Ends} {s : Stp} {y : V} {v0 v3 v4 : Option V} {ts : List Str} (hD : Dp K G y s.dat) (ok : s.ok) (hd : s.dep ≤ dp) (hl : s.toks.length ≤ 10000) (hp : G p = some (.lst (ts.map V.str))) (hx : ts.length ≤ 10000)
    (k : ∀ G' v3' v4', But p G G' → G' p = some (.lst ((ts ++ s.toks).map V.str)) → D.nx [v0, some (.ref p), some y, v3', v4'] G') :
    x_step K dp D [v0, some (.ref p), some y, v3, v4] G := by
  have fin : ∀ G1, Evl.Ex G G1 → D.nx [v0, some (.ref p), some y, v3, v4] (upd G1 p (.lst (ts.map V.str ++ s.toks.map V.str))) := fun G1 e => k _ v3 v4 ((But.of e).upd) (by rw [upd_same, List.map_append])
  have put : ∀ (G1 : Hp) (te : TE), Evl.Ex G G1 → EvL te [v0, some (.ref p), some y, v3, v4] G1 (s.toks.map V.str) → tDrop (tBM K "list" rExtend (tVar 1) (tCons te tNil)) D [v0, some (.ref p), some y, v3, v4] G1 := fun G1 te x h =>
    s_ext (x _ _ hp) (ev_var rfl) h (by rw [List.length_map, List.length_map]; omega) fun G2 x2 => fin G2 (x.trans x2)
  have plain : ∀ (a : Addr) (w : Str) (ws : List Str), y = .ref a → SqT K G a ((w :: ws).map V.str) → (w ≠ "loop" ∧ w ≠ "either" ∧ w ≠ "try" ∧ w ≠ "if") → s.toks = (w :: ws) ++ [(";" : Str)] → x_step K dp D [v0, some (.ref p), some y, v3, v4] G := by
    intro a w ws e hs hn et
    subst e
    have e0 : ∀ G1, Evl.Ex G G1 → Ev (tOp (rIxT K) (tVar 2) (tC (.int 0))) [v0, some (.ref p), some (.ref a), v3, v4] G1 (.str w) := fun G1 x => ev_ixT (ev_var rfl) ev_c (ex_t x hs) (atI_nat (j := 0) rfl)
    refine s_unless (e0 _ (Evl.Ex.refl G)) ev_c hn.1 fun H2 x2 => s_unless (e0 _ x2) ev_c hn.2.2.2 fun H3 x3 => s_unless (e0 _ (x2.trans x3)) ev_c hn.2.2.1 fun H4 x4 => s_unless (e0 _ ((x2.trans x3).trans x4)) ev_c hn.2.1 fun H5 x5 => ?_
    have x := ((x2.trans x3).trans x4).trans x5
    have hl2 := hl
    rw [et, List.length_append] at hl2
    exact put _ _ x (el_is (el_cat (el_listT (ev_var rfl) (ex_t x hs)) (el_lst (ea_cons ev_c ea_nil) (by show 1 ≤ 100000; decide)) (by rw [List.length_map]; show _ + 1 ≤ _; omega)) (by rw [et, List.map_append]; rfl))
  cases s with
  | word q n =>
    obtain ⟨a, rfl, hs⟩ := inv_word hD
    refine plain a q [n] rfl hs ?_ (by rw [Stp.toks]; rfl)
    rw [Stp.ok] at ok
    rcases ok with h | h
    · exact word_not _ h.1
    · exact class_not _ h.1
  | bare q =>
    obtain ⟨a, rfl, hs⟩ := inv_bare hD
    rw [Stp.ok] at ok
    exact plain a q [] rfl hs (bare_not _ ok) (by rw [Stp.toks]; rfl)
  | loop b =>
    obtain ⟨a, u, rfl, hs, hu⟩ := inv_loop hD
    have hl2 := hl
    rw [Stp.toks, List.length_cons, curl_len] at hl2
    rw [Stp.ok] at ok
    rw [Stp.dep] at hd
    refine s_then (ev_ixT (ev_var rfl) ev_c hs rfl) ev_c rfl fun H2 x => ?_
    exact put _ _ x (el_is (el_cat (el_lst (ea_cons ev_c ea_nil) (by show 1 ≤ 100000; decide)) (el_curly (ev_ixT (ev_var rfl) ev_c (ex_t x hs) rfl) (Bdy.mvt (KT.of x) b hu) ok (by omega) (by omega)) (by rw [List.length_map, curl_len]; show 1 + _ ≤ _; omega)) (by rw [Stp.toks]; rfl))
  | cond n b c =>
    obtain ⟨a, u, w, rfl, hs, hu, hw⟩ := inv_cond hD
    have hl2 := hl
    rw [Stp.toks] at hl2
    simp only [List.length_cons, List.length_append, curl_len] at hl2
    rw [Stp.ok] at ok
    rw [Stp.dep] at hd
    have e0 : ∀ G1, Evl.Ex G G1 → Ev (tOp (rIxT K) (tVar 2) (tC (.int 0))) [v0, some (.ref p), some (.ref a), v3, v4] G1 (.str "if") := fun G1 x => ev_ixT (ev_var rfl) ev_c (ex_t x hs) rfl
    refine s_unless (e0 _ (Evl.Ex.refl G)) ev_c (by decide) fun H1 x1 => s_then (e0 _ x1) ev_c rfl fun H2 x2 => ?_
    have x := x1.trans x2
    exact put _ _ x (el_is (el_cat (el_cat (el_cat (el_lst (ea_cons ev_c (ea_cons (ev_ixT (ev_var rfl) ev_c (ex_t x hs) rfl) ea_nil)) (by show 2 ≤ 100000; decide)) (el_curly (b := b) (ev_ixT (ev_var rfl) ev_c (ex_t x hs) rfl) (Bdy.mvt (KT.of x) b hu) ok.2.1 (by omega) (by omega)) (by simp only [List.length_map, List.length_cons, List.length_nil, List.length_append, curl_len]; omega)) (el_lst (ea_cons ev_c ea_nil) (by show 1 ≤ 100000; decide)) (by simp only [List.length_map, List.length_cons, List.length_nil, List.length_append, curl_len]; omega)) (el_curly (b := c) (ev_ixT (ev_var rfl) ev_c (ex_t x hs) rfl) (Bdy.mvt (KT.of x) c hw) ok.2.2 (by omega) (by omega)) (by simp only [List.length_map, List.length_cons, List.length_nil, List.length_append, curl_len]; omega)) (by rw [Stp.toks]; simp))
  | tri b c =>
    obtain ⟨a, u, w, rfl, hs, hu, hw⟩ := inv_tri hD
    have hl2 := hl
    rw [Stp.toks] at hl2
    simp only [List.length_cons, List.length_append, curl_len] at hl2
    rw [Stp.ok] at ok
    rw [Stp.dep] at hd
    have e0 : ∀ G1, Evl.Ex G G1 → Ev (tOp (rIxT K) (tVar 2) (tC (.int 0))) [v0, some (.ref p), some (.ref a), v3, v4] G1 (.str "try") := fun G1 x => ev_ixT (ev_var rfl) ev_c (ex_t x hs) rfl
    refine s_unless (e0 _ (Evl.Ex.refl G)) ev_c (by decide) fun H1 x1 => s_unless (e0 _ x1) ev_c (by decide) fun H2 x2 => s_then (e0 _ (x1.trans x2)) ev_c rfl fun H3 x3 => ?_
    have x := (x1.trans x2).trans x3
    exact put _ _ x (el_is (el_cat (el_cat (el_cat (el_lst (ea_cons ev_c ea_nil) (by show 1 ≤ 100000; decide)) (el_curly (b := b) (ev_ixT (ev_var rfl) ev_c (ex_t x hs) rfl) (Bdy.mvt (KT.of x) b hu) ok.1 (by omega) (by omega)) (by simp only [List.length_map, List.length_cons, List.length_nil, List.length_append, curl_len]; omega)) (el_lst (ea_cons ev_c ea_nil) (by show 1 ≤ 100000; decide)) (by simp only [List.length_map, List.length_cons, List.length_nil, List.length_append, curl_len]; omega)) (el_curly (b := c) (ev_ixT (ev_var rfl) ev_c (ex_t x hs) rfl) (Bdy.mvt (KT.of x) c hw) ok.2 (by omega) (by omega)) (by simp only [List.length_map, List.length_cons, List.length_nil, List.length_append, curl_len]; omega)) (by rw [Stp.toks]; simp))
  | alt bs =>
    obtain ⟨a, u, rfl, hs, hu⟩ := inv_alt hD
    rw [Stp.ok] at ok
    rw [Stp.dep] at hd
    have et : Stp.toks (.alt bs) = altT "either" bs.list := by rw [Stp.toks, altT_list]
    rw [et] at k hl
    have e0 : ∀ G1, Evl.Ex G G1 → Ev (tOp (rIxT K) (tVar 2) (tC (.int 0))) [v0, some (.ref p), some (.ref a), v3, v4] G1 (.str "either") := fun G1 x => ev_ixT (ev_var rfl) ev_c (ex_t x hs) rfl
    refine s_unless (e0 _ (Evl.Ex.refl G)) ev_c (by decide) fun H1 x1 => s_unless (e0 _ x1) ev_c (by decide) fun H2 x2 => s_unless (e0 _ (x1.trans x2)) ev_c (by decide) fun H3 x3 => s_then (e0 _ ((x1.trans x2).trans x3)) ev_c rfl fun H4 x4 => ?_
    have x := ((x1.trans x2).trans x3).trans x4
    obtain ⟨a2, zs, rfl, hs2, ha⟩ := inv_tup hu
    have hz := dp_len _ _ ha
    rw [bdats_list, List.length_map] at hz
    rw [bdats_list] at ha
    have hA : EvA (tCons (tOp (rIxT K) (tVar 2) (tC (.int 1))) tNil) [v0, some (.ref p), some (.ref a), v3, v4] H4 [.ref a2] := ea_cons (ev_ixT (ev_var rfl) ev_c (ex_t x hs) rfl) ea_nil
    refine s_forET hA (ex_t x hs2) (fun i σ G' => ∃ v3' v4', σ = [v0, some (.ref p), some (.ref a), v3', v4'] ∧ But p G G' ∧ G' p = some (.lst ((ts ++ altT "either" (bs.list.take i)).map V.str))) (fun H5 x5 => ⟨v3, v4, rfl, But.of (x.trans x5), by rw [List.take_zero, altT, List.append_nil]; exact (x.trans x5) _ _ hp⟩) ?_ ?_ ?_
    · rintro i σ G' _ ⟨v3', v4', rfl, hb, _⟩
      exact (but_ktl hb hp) _ _ hs2
    · rintro i w σ G' G2 hi ⟨v3', v4', rfl, hb, hg⟩ ⟨T, y1, y2, rfl, nT, rfl, e4, e5⟩
      have e6 : y1 = .int (i : Nat) := (Option.some.inj e4).symm
      subst e6
      have e5 : zs[i]? = some y2 := e5
      obtain ⟨d, hd1, hd2⟩ := dp_at _ _ i y2 ha e5
      rw [List.getElem?_map] at hd1
      cases hbi : bs.list[i]? with
      | none => rw [hbi] at hd1; cases hd1
      | some c =>
        rw [hbi] at hd1
        have ed : PyData.tuple c.dats = d := Option.some.inj hd1
        subst ed
        have hc := List.mem_of_getElem? hbi
        have := bdep_list bs c hc
        have xT : Evl.Ex G' (upd G' T (.tup [.int (i : Nat), y2])) := Evl.Ex.new nT
        have kt : KT K G (upd G' T (.tup [.int (i : Nat), y2])) := fun b ys h => KT.of xT b ys ((but_ktl hb hp) b ys h)
        have hi2 : i < bs.list.length := (List.getElem?_eq_some_iff.mp hbi).1
        have htk : (bs.list.take i).length = i := by rw [List.length_take]; omega
        have pre : altT "either" (bs.list.take (i + 1)) = altT "either" (bs.list.take i) ++ ((if i = 0 then ("either" : Str) else "or") :: curl c.toks) := by
          rw [take_succ hbi, altT_snoc, htk]
        have hle : (altT "either" (bs.list.take (i + 1))).length ≤ (altT "either" bs.list).length := by
          have := altT_pre (bs.list.take (i + 1)) (bs.list.drop (i + 1)) "either"
          rw [List.take_append_drop] at this
          exact this
        rw [pre, List.length_append, List.length_cons, curl_len] at hle
        refine ⟨T, _, rfl, st_of upd_same, rfl, _, _, rfl, _, _, rfl, rfl, ?_⟩
        refine s_ext (ys := ((if i = 0 then ("either" : Str) else "or") :: curl c.toks).map V.str) (xT _ _ hg) (ev_var rfl) (el_is (el_cat (el_lst (vs := [.str (if i = 0 then ("either" : Str) else "or")]) (ea_cons (ev_if (et_is (et_test (ev_op (ev_var rfl) ev_c (rv_eq rfl))) (int_dec _ _)) (fun e => ?_) (fun e => ?_)) ea_nil) (by show 1 ≤ 100000; decide)) (el_curly (b := c) (ev_var rfl) (Bdy.mvt kt c hd2) (bok_list bs ok.2 c hc) (by omega) (by omega)) (by rw [List.length_map, curl_len]; show 1 + _ ≤ _; omega)) rfl) (by simp only [List.length_map, List.length_append, List.length_cons, curl_len]; omega) fun G3 x3 => ?_
        · have : i = 0 := by have := of_decide_eq_true e; omega
          rw [if_pos this]; exact ev_c
        · have : i ≠ 0 := by have := of_decide_eq_false e; omega
          rw [if_neg this]; exact ev_c
        · refine ⟨_, _, rfl, (hb.trans (But.of (xT.trans x3))).upd, ?_⟩
          rw [upd_same, pre, ← List.map_append, List.append_assoc]
    · rintro σ G' ⟨v3', v4', rfl, hb, hg⟩
      rw [hz, List.take_length] at hg
      exact k G' _ _ hb hg
theorem flat_pre {α : Type} : ∀ (l r : List (List α)), l.flatten.length ≤ (l ++ r).flatten.length
  | [], r => by simp
  | a :: l, r => by
    have := flat_pre l r
    rw [List.cons_append, List.flatten_cons, List.flatten_cons, List.length_append, List.length_append]
    omega
theorem pure__law_signs {dp : Nat} (vs : List V) (H : Hp) (Q : VK) (E : XK) (h : (sp_signs K (dp + 1)) vs H Q E) : t__law_signs K dp { nx := fun _ H' => Q .non H', rt := Q } (start ["_law_body_here", "_law_found", "_law_step_here", "_law_at", "_law_block_here"] vs) H := by
  obtain ⟨v, b, hD, ok, hd, hl, rfl, k⟩ := h
  obtain ⟨a, xs, rfl, hs, ha⟩ := inv_tup hD
  have hx := dp_len _ _ ha
  rw [dats_list, List.length_map] at hx
  rw [dats_list] at ha
  rw [toks_list] at hl k
  refine q_asgL (el_lst ea_nil (by decide)) fun p H1 hp x1 h1 => ?_
  refine q_forT (xs := xs) (ev_var rfl) (ex_t x1 hs) (fun i σ G => ∃ v2 v3 v4, σ = [some (.ref a), some (.ref p), v2, v3, v4] ∧ Evl.Ex H G ∧ G p = some (.lst (((b.steps.take i).map Stp.toks).flatten.map V.str))) (fun H2 x2 => ⟨none, none, none, rfl, x1.trans x2, x2 _ _ h1⟩) ?_ ?_ ?_
  · rintro i σ G _ ⟨v2, v3, v4, rfl, xg, _⟩
    exact ex_t xg hs
  · rintro i y σ G hy ⟨v2, v3, v4, rfl, xg, hg⟩
    obtain ⟨d, hd1, hd2⟩ := dp_at _ _ i y ha hy
    rw [List.getElem?_map] at hd1
    cases hb : b.steps[i]? with
    | none => rw [hb] at hd1; cases hd1
    | some c =>
      rw [hb] at hd1
      have ed : c.dat = d := Option.some.inj hd1
      subst ed
      have hc := List.mem_of_getElem? hb
      have := dep_list b c hc
      have pre : ((b.steps.take (i + 1)).map Stp.toks).flatten = ((b.steps.take i).map Stp.toks).flatten ++ c.toks := by
        rw [take_succ hb, List.map_append, List.flatten_append]; simp
      have hle : ((b.steps.take (i + 1)).map Stp.toks).flatten.length ≤ (b.steps.map Stp.toks).flatten.length := by
        have := flat_pre ((b.steps.take (i + 1)).map Stp.toks) ((b.steps.drop (i + 1)).map Stp.toks)
        rw [← List.map_append, List.take_append_drop] at this
        exact this
      rw [pre, List.length_append] at hle
      refine signs_step (dp := dp) (Stp.mv (KT.of xg) c y hd2) (ok_list b ok c hc) (by omega) (by omega) hg (by omega) fun G' v3' v4' hb' hg' => ⟨_, _, _, rfl, (((But.of xg).trans hb').ex hp), ?_⟩
      rw [hg', pre]
  · rintro σ G ⟨v2, v3, v4, rfl, xg, hg⟩
    rw [hx, List.take_length] at hg
    exact s_ret (ev_var rfl) fun G2 x2 => k G2 p (xg.trans x2) hp (x2 _ _ hg)
end
end Ef

namespace Ef
open PySem PySem.Spec PyProof.Rows L2 Evl
/-! drawn words -/
def stemW : List Nat := [97, 113, 122, 109]
def stemC : List Nat := [97, 101, 115, 116, 120]
theorem smalls_codes : ∀ c ∈ smalls.cps.toList, 97 ≤ c ∧ c ≤ 122 := by decide +kernel
theorem stemW_small : ∀ c ∈ stemW, c ∈ smalls.cps.toList := by decide +kernel
theorem stemC_small : ∀ c ∈ stemC, c ∈ smalls.cps.toList := by decide +kernel
theorem reserved_far : ∀ w ∈ reserved, 2 ≤ (w.cps.toList.filter fun c => !decide (c ∈ stemW)).length := by decide +kernel
theorem cat_list (a b : Str) : (a ++ b).cps.toList = a.cps.toList ++ b.cps.toList := TL.tl_append a b
theorem str_len (z : Str) : z.length = z.cps.toList.length := TL.len_tl z
theorem stem_none {z : Str} (h : ∀ c ∈ z.cps.toList, c ∈ stemW) : (z.cps.toList.filter fun c => !decide (c ∈ stemW)) = [] := by
  rw [List.filter_eq_nil_iff]
  intro c hc
  simp [h c hc]
theorem fits_of {w : Str} (hl : 1 ≤ w.length ∧ w.length ≤ 8) (ha : ∀ c ∈ w.cps.toList, c ∈ smalls.cps.toList) (hf : (w.cps.toList.filter fun c => !decide (c ∈ stemW)).length ≤ 1) : fitsW w = true := by
  unfold fitsW
  have hr : w ∉ reserved := fun h => by have := reserved_far w h; omega
  rw [decide_eq_true hl.1, decide_eq_true hl.2, decide_eq_false hr]
  simp only [Bool.and_self, Bool.not_false, Bool.true_and, List.all_eq_true, decide_eq_true_eq]
  exact ha
theorem fits_stem {c : Nat} {z : Str} (hc : c ∈ smalls.cps.toList) (hz : ∀ c ∈ z.cps.toList, c ∈ stemW) (hl : z.length ≤ 7) : fitsW (⟨#[c]⟩ ++ z) = true ∧ fitsW (z ++ ⟨#[c]⟩) = true := by
  have e1 : (⟨#[c]⟩ : Str).cps.toList = [c] := rfl
  have l1 : (⟨#[c]⟩ : Str).length = 1 := rfl
  have hf : ([c].filter fun c => !decide (c ∈ stemW)).length ≤ 1 := List.length_filter_le _ _
  constructor
  · refine fits_of (by rw [len_app, l1]; omega) (fun d hd => ?_) ?_
    · rw [cat_list, e1] at hd
      rcases List.mem_append.mp hd with h | h
      · rw [List.mem_singleton.mp h]; exact hc
      · exact stemW_small _ (hz d h)
    · rw [cat_list, e1, List.filter_append, stem_none hz, List.append_nil]; exact hf
  · refine fits_of (by rw [len_app, l1]; omega) (fun d hd => ?_) ?_
    · rw [cat_list, e1] at hd
      rcases List.mem_append.mp hd with h | h
      · exact stemW_small _ (hz d h)
      · rw [List.mem_singleton.mp h]; exact hc
    · rw [cat_list, e1, List.filter_append, stem_none hz, List.nil_append]; exact hf
theorem fitsC_stem {c : Nat} {z : Str} (hc : c ∈ larges.cps.toList) (hz : ∀ c ∈ z.cps.toList, c ∈ stemC) (hl : z.length ≤ 7) : fitsC (⟨#[c]⟩ ++ z) = true := by
  have l1 : (⟨#[c]⟩ : Str).length = 1 := rfl
  unfold fitsC
  rw [len_app, l1, cat_list, decide_eq_true (by omega), decide_eq_true (by omega)]
  show ((true && true) && (decide (c ∈ larges.cps.toList) && z.cps.toList.all fun c => decide (c ∈ smalls.cps.toList))) = true
  rw [decide_eq_true hc]
  simp only [Bool.and_self, Bool.true_and, List.all_eq_true, decide_eq_true_eq]
  exact fun d hd => stemC_small d (hz d hd)
section
variable {K : PySem.W.Frag} {σ : L2.St} {H H1 G : Hp} {ta tb te tl : TE} {v : V} {b p : Addr}
theorem le_mut {o : HO} (x : Le b H G) (hb : Bag H b) (hp : H p = none) : Le b H (upd G p o) := by
  have hn : b ≠ p := fun e => hb.none (by rw [e]; exact hp)
  refine ⟨fun a u n h => by rw [upd_ne (ne_of_none h hp)]; exact x.keep a u n h, fun _ => ?_⟩
  obtain ⟨u, s, e, r⟩ := x.bag hb
  exact ⟨u, s, by rw [upd_ne hn]; exact e, r⟩
theorem bag_ne (hb : Bag H b) (hp : H p = none) : p ≠ b := fun e => hb.none (by rw [← e]; exact hp)
theorem len_drawnList {f : Str → Bool} {vs : List V} {Q : VK} {E : XK} (h : spDrawnList f vs H Q E) : vs.length = 2 := by
  obtain ⟨_, _, rfl, _⟩ := h; rfl
theorem len__law_words {vs : List V} {Q : VK} {E : XK} (h : sp_words vs H Q E) : vs.length = 2 := len_drawnList h
theorem len__law_labels {vs : List V} {Q : VK} {E : XK} (h : sp_labels vs H Q E) : vs.length = 2 := len_drawnList h
theorem one_of {x : V} (L : List Nat) (h : x ∈ L.map fun c => V.str ⟨#[c]⟩) : ∃ c ∈ L, x = .str ⟨#[c]⟩ := by
  obtain ⟨c, hc, rfl⟩ := List.mem_map.mp h
  exact ⟨c, hc, rfl⟩
/-- the loop that draws a stem -/
theorem stem_loop {L : List Nat} {tz : TS} {D : Ends} {z0 : Str} {tl : TA} {i3 i5 : Nat} (hL : L ≠ []) (hLl : L.length ≤ 100) (P : L2.St → Str → Prop) (hb : Bag H b) (h0 : P σ "")
    (hv : ∀ σ z, P σ z → σ[0]? = some (some (.ref b)) ∧ σ[i3]? = some (some (.str z))) (hset : ∀ σ z x, P σ z → P (σ.set i5 (some x)) z) (hset3 : ∀ σ z w, P σ z → P (σ.set i3 (some (.str w))) w)
    (htl : ∀ σ z H Q, P σ z → (∀ l, H l = none → Q (.ref l) (upd H l (.lst (L.map fun c => V.str ⟨#[c]⟩)))) → tLst tl σ H Q)
    (k : ∀ σ' z H', P σ' z → Le b H H' → z.length ≤ 7 → (∀ c ∈ z.cps.toList, c ∈ L) → tz D σ' H') :
    tSeq (tFor (iRng1 (tCons (tCall sp_draw [] E0 (tCons (tVar 0) (tCons (tC (.int 8)) tNil))) tNil)) (gName i5) (tAsg (tOp rAddSt (tVar i3) (tCall (sp_one K) [] E0 (tCons (tVar 0) (tCons (tLst tl) tNil)))) (gName i3))) tz D σ H := by
  refine ⟨_, (hv σ "" h0).1, b, 8, rfl, hb, by decide, by decide, fun H2 d l2 d0 d1 => ⟨d, rfl, by omega, by omega, ?_⟩⟩
  refine for_range (lo := 0) (n := d.toNat) (fun i σ G => ∃ z : Str, P σ z ∧ Le b H G ∧ z.length ≤ i ∧ ∀ c ∈ z.cps.toList, c ∈ L) ⟨"", h0, l2, by decide, fun c hc => by cases hc⟩ ?_ ?_
  · rintro i σ G hi ⟨z, hP, lg, hz, hc⟩
    have hP' := hset σ z (.int (0 + (i : Int))) hP
    refine ⟨_, (hv _ _ hP').2, _, (hv _ _ hP').1, htl _ z G _ hP' fun l hl => ⟨b, l, _, rfl, (Le.of (Evl.Ex.new hl)).bag (lg.bag hb), bag_ne (lg.bag hb) hl, sq_of upd_same, ?_, ?_, fun G2 x lg2 hx => ?_⟩⟩
    · intro e; exact hL (List.map_eq_nil_iff.mp e)
    · rw [List.length_map]; omega
    · obtain ⟨c, hcL, rfl⟩ := one_of L hx
      have l1 : (⟨#[c]⟩ : Str).length = 1 := rfl
      refine ⟨z, _, rfl, rfl, sz_of (by rw [l1]; omega), z ++ ⟨#[c]⟩, hset3 _ _ _ hP', lg.trans ((Le.of (Evl.Ex.new hl)).trans lg2), by rw [len_app, l1]; omega, fun e he => ?_⟩
      rw [cat_list] at he
      rcases List.mem_append.mp he with q | q
      · exact hc e q
      · have : e ∈ [c] := q
        rw [List.mem_singleton.mp this]; exact hcL
  · rintro σ G ⟨z, hP, lg, hz, hc⟩
    exact k σ z G hP lg (by omega) hc
theorem seqIx {n k : Nat} (h : k < n) : seqIndex? (k : Int) n = some k := by
  have := seqIndex_of (show (0 : Int) ≤ (k : Int) by omega) (show (k : Int) < (n : Int) by omega)
  rw [this]; simp
theorem erase_map {α β : Type} (f : α → β) : ∀ (l : List α) (j : Nat), (l.map f).eraseIdx j = (l.eraseIdx j).map f
  | [], j => by simp
  | a :: l, 0 => by simp
  | a :: l, j + 1 => by
    have := erase_map f l j
    rw [List.map_cons, List.eraseIdx_cons_succ, List.eraseIdx_cons_succ, List.map_cons, this]
/-- left.pop(_law_draw(bag, len(left))) -/
theorem pop_draw {i2 : Nat} {q : Addr} {ls : List Str} {Q : VK} (h0 : σ[0]? = some (some (.ref b))) (h2 : σ[i2]? = some (some (.ref q))) (hb : Bag H b) (hq : H q = some (.lst (ls.map V.str))) (hn : q ≠ b) (hl : 0 < ls.length) (hl2 : ls.length ≤ 1000)
    (k : ∀ H1 (j : Nat) (y : Str), Le b H H1 → H1 q = some (.lst (ls.map V.str)) → ls[j]? = some y → Q (.str y) (upd H1 q (.lst ((ls.eraseIdx j).map V.str)))) :
    tBM K "list" rPopAt (tVar i2) (tCons (tCall sp_draw [] E0 (tCons (tVar 0) (tCons (tCB (rLenSq K) (tCons (tVar i2) tNil)) tNil))) tNil) σ H Q := by
  refine ⟨_, h2, Or.inl ⟨rfl, _, sq_of hq⟩, _, h0, _, h2, q, _, rfl, .inl (sq_of hq), b, _, rfl, hb, by rw [List.length_map]; omega, by rw [List.length_map]; omega, fun H1 d l1 d0 d1 => ?_⟩
  rw [List.length_map] at d1
  obtain ⟨j, rfl⟩ := Int.eq_ofNat_of_zero_le d0
  have hj : j < ls.length := by omega
  have ey : ls[j]? = some ls[j] := List.getElem?_eq_getElem hj
  refine ⟨q, ls.map V.str, (j : Int), j, .str ls[j], rfl, rfl, l1.keep _ _ hn hq, by omega, by omega, by rw [List.length_map]; exact seqIx hj, by rw [List.getElem?_map, ey]; rfl, ?_⟩
  have := k H1 j _ l1 (l1.keep _ _ hn hq) ey
  rw [erase_map]
  exact this
theorem signs_mem {z y : Str} (h : y ∈ signsOf z) : ∃ c ∈ z.cps.toList, y = ⟨#[c]⟩ := by
  obtain ⟨c, hc, rfl⟩ := List.mem_map.mp h
  exact ⟨c, hc, rfl⟩
theorem pure__law_words (vs : List V) (H : Hp) (Q : VK) (E : XK) (h : sp_words vs H Q E) : t__law_words K { nx := fun _ H' => Q .non H', rt := Q } (start ["_law_bag_here", "_law_many", "_law_left", "_law_stem", "_law_found", "_law_turn", "_law_is_ahead", "_law_sign"] vs) H := by
  obtain ⟨b, m, rfl, hb, m0, m1, k⟩ := h
  refine ⟨_, rfl, by decide +kernel, fun q hq => ⟨by decide, fun p hp => ⟨_, _, _, rfl, ?_⟩⟩⟩
  have xq : Evl.Ex H (upd H q (.lst ((signsOf smalls).map V.str))) := Evl.Ex.new hq
  have xp : Evl.Ex H (upd (upd H q (.lst ((signsOf smalls).map V.str))) p (.lst [])) := xq.trans (Evl.Ex.new hp)
  have hp0 : H p = none := fresh_back xq hp
  have hpq : p ≠ q := fun e => by subst e; rw [upd_same] at hp; cases hp
  have hqb := bag_ne hb hq
  have hpb := bag_ne hb hp0
  refine stem_loop (L := stemW) (i3 := 3) (i5 := 5) (z0 := "") (by decide) (by decide) (fun σ z => ∃ v5, σ = [some (.ref b), some (.int m), some (.ref q), some (.str z), some (.ref p), v5, none, none]) ((Le.of xp).bag hb) ⟨none, rfl⟩ (fun σ z ⟨v5, e⟩ => by subst e; exact ⟨rfl, rfl⟩) (fun σ z x ⟨v5, e⟩ => by subst e; exact ⟨_, rfl⟩) (fun σ z w ⟨v5, e⟩ => by subst e; exact ⟨_, rfl⟩) (fun σ z H Q _ h => ⟨by show 4 ≤ sizeLine; decide, h⟩) fun σ' z G1 ⟨v5, e⟩ l1 hz hc => ?_
  subst e
  have bag1 : Bag G1 b := l1.bag ((Le.of xp).bag hb)
  refine ⟨_, rfl, b, 2, rfl, bag1, by decide, by decide, fun G2 d l2 d0 d1 => ⟨rfl, ?_⟩⟩
  refine ⟨_, rfl, m, rfl, by omega, by omega, ?_⟩
  have lH : Le b H G2 := ((Le.of xp).trans l1).trans l2
  refine for_range (lo := 0) (n := m.toNat) (fun i σ G => ∃ (v5 v7 : Option V) (ls ys : List Str), σ = [some (.ref b), some (.int m), some (.ref q), some (.str z), some (.ref p), v5, some (.bl (decide (V.int d = V.int 0))), v7] ∧ Le b H G ∧ G q = some (.lst (ls.map V.str)) ∧ ls.length + i = 26 ∧ (∀ y ∈ ls, y ∈ signsOf smalls) ∧ G p = some (.lst (ys.map V.str)) ∧ ys.length = i ∧ ∀ y ∈ ys, fitsW y = true)
    ⟨v5, none, signsOf smalls, [], rfl, lH, l2.keep _ _ hqb (l1.keep _ _ hqb (by rw [upd_ne hpq.symm, upd_same]; rfl)), by decide +kernel, fun y h => h, l2.keep _ _ hpb (l1.keep _ _ hpb upd_same), rfl, fun y h => by cases h⟩ ?_ ?_
  · rintro i σ G hi ⟨v5, v7, ls, ys, rfl, lg, hq1, hls, hla, hp1, hyl, hya⟩
    refine pop_draw (K := K) (b := b) (q := q) (ls := ls) rfl rfl (lg.bag hb) hq1 hqb (by omega) (by omega) fun G3 j y l3 hq3 hy => ?_
    obtain ⟨c, hcs, rfl⟩ := signs_mem (hla _ (List.mem_of_getElem? hy))
    have hf := fits_stem hcs hc hz
    have l4 : Le b H (upd G3 q (.lst ((ls.eraseIdx j).map V.str))) := le_mut (lg.trans l3) hb hq
    have hp3 : (upd G3 q (.lst ((ls.eraseIdx j).map V.str))) p = some (.lst (ys.map V.str)) := by rw [upd_ne hpq]; exact l3.keep _ _ hpb hp1
    have l1' : (⟨#[c]⟩ : Str).length = 1 := rfl
    obtain ⟨w, hw, ev⟩ : ∃ w : Str, fitsW w = true ∧ Ev (tIf (tB (tVar 6)) (tOp rAddSt (tVar 7) (tVar 3)) (tOp rAddSt (tVar 3) (tVar 7))) [some (.ref b), some (.int m), some (.ref q), some (.str z), some (.ref p), some (.int (0 + (i : Int))), some (.bl (decide (V.int d = V.int 0))), some (.str ⟨#[c]⟩)] (upd G3 q (.lst ((ls.eraseIdx j).map V.str))) (.str w) := by
      cases hdd : decide (V.int d = V.int 0) with
      | true => exact ⟨_, hf.1, ev_if (et_B (ev_var rfl)) (fun _ => ev_addSt (ev_var rfl) (ev_var rfl) (by rw [l1']; omega)) (fun e => by cases e)⟩
      | false => exact ⟨_, hf.2, ev_if (et_B (ev_var rfl)) (fun e => by cases e) (fun _ => ev_addSt (ev_var rfl) (ev_var rfl) (by rw [l1']; omega))⟩
    refine s_app hp3 (ev_var rfl) ev (by rw [List.length_map]; omega) fun G5 x5 => ?_
    refine ⟨_, _, ls.eraseIdx j, ys ++ [w], rfl, le_mut (l4.trans (Le.of x5)) hb hp0, ?_, ?_, fun y hy2 => hla y (List.mem_of_mem_eraseIdx hy2), ?_, ?_, fun y hy2 => ?_⟩
    · rw [upd_ne hpq.symm]; exact x5 _ _ upd_same
    · have := (List.getElem?_eq_some_iff.mp hy).1
      rw [List.length_eraseIdx, if_pos this]; omega
    · rw [upd_same, List.map_append]; rfl
    · rw [List.length_append, hyl]; rfl
    · rcases List.mem_append.mp hy2 with h | h
      · exact hya y h
      · rw [List.mem_singleton.mp h]; exact hw
  · rintro σ G ⟨v5, v7, ls, ys, rfl, lg, hq1, hls, hla, hp1, hyl, hya⟩
    exact ⟨_, rfl, k G p ys lg hp0 hp1 (fun e => by rw [e] at hyl; simp at hyl; omega) (by omega) hya⟩
theorem pure__law_labels (vs : List V) (H : Hp) (Q : VK) (E : XK) (h : sp_labels vs H Q E) : t__law_labels K { nx := fun _ H' => Q .non H', rt := Q } (start ["_law_bag_here", "_law_many", "_law_left", "_law_stem", "_law_found", "_law_turn"] vs) H := by
  obtain ⟨b, m, rfl, hb, m0, m1, k⟩ := h
  refine ⟨_, rfl, by decide +kernel, fun q hq => ⟨by decide, fun p hp => ⟨_, _, _, rfl, ?_⟩⟩⟩
  have xq : Evl.Ex H (upd H q (.lst ((signsOf larges).map V.str))) := Evl.Ex.new hq
  have xp : Evl.Ex H (upd (upd H q (.lst ((signsOf larges).map V.str))) p (.lst [])) := xq.trans (Evl.Ex.new hp)
  have hp0 : H p = none := fresh_back xq hp
  have hpq : p ≠ q := fun e => by subst e; rw [upd_same] at hp; cases hp
  have hqb := bag_ne hb hq
  have hpb := bag_ne hb hp0
  refine stem_loop (L := stemC) (i3 := 3) (i5 := 5) (z0 := "") (by decide) (by decide) (fun σ z => ∃ v5, σ = [some (.ref b), some (.int m), some (.ref q), some (.str z), some (.ref p), v5]) ((Le.of xp).bag hb) ⟨none, rfl⟩ (fun σ z ⟨v5, e⟩ => by subst e; exact ⟨rfl, rfl⟩) (fun σ z x ⟨v5, e⟩ => by subst e; exact ⟨_, rfl⟩) (fun σ z w ⟨v5, e⟩ => by subst e; exact ⟨_, rfl⟩) (fun σ z H Q _ h => ⟨by show 5 ≤ sizeLine; decide, h⟩) fun σ' z G1 ⟨v5, e⟩ l1 hz hc => ?_
  subst e
  refine ⟨_, rfl, m, rfl, by omega, by omega, ?_⟩
  have lH : Le b H G1 := (Le.of xp).trans l1
  refine for_range (lo := 0) (n := m.toNat) (fun i σ G => ∃ (v5 : Option V) (ls ys : List Str), σ = [some (.ref b), some (.int m), some (.ref q), some (.str z), some (.ref p), v5] ∧ Le b H G ∧ G q = some (.lst (ls.map V.str)) ∧ ls.length + i = 26 ∧ (∀ y ∈ ls, y ∈ signsOf larges) ∧ G p = some (.lst (ys.map V.str)) ∧ ys.length = i ∧ ∀ y ∈ ys, fitsC y = true)
    ⟨v5, signsOf larges, [], rfl, lH, l1.keep _ _ hqb (by rw [upd_ne hpq.symm, upd_same]; rfl), by decide +kernel, fun y h => h, l1.keep _ _ hpb upd_same, rfl, fun y h => by cases h⟩ ?_ ?_
  · rintro i σ G hi ⟨v5, ls, ys, rfl, lg, hq1, hls, hla, hp1, hyl, hya⟩
    refine s_appC rfl hp1 (pop_draw (K := K) (b := b) (q := q) (ls := ls) rfl rfl (lg.bag hb) hq1 hqb (by omega) (by omega) fun G3 j y l3 hq3 hy => ?_)
    obtain ⟨c, hcs, rfl⟩ := signs_mem (hla _ (List.mem_of_getElem? hy))
    have hf := fitsC_stem hcs hc hz
    have l1' : (⟨#[c]⟩ : Str).length = 1 := rfl
    have hp3 : (upd G3 q (.lst ((ls.eraseIdx j).map V.str))) p = some (.lst (ys.map V.str)) := by rw [upd_ne hpq]; exact l3.keep _ _ hpb hp1
    refine ⟨_, rfl, _, _, rfl, rfl, sz_of (by rw [l1']; omega), p, _, _, rfl, rfl, hp3, by rw [List.length_map]; exact sz_lt (by omega), ?_⟩
    refine ⟨_, ls.eraseIdx j, ys ++ [⟨#[c]⟩ ++ z], rfl, le_mut (le_mut (lg.trans l3) hb hq) hb hp0, ?_, ?_, fun y hy2 => hla y (List.mem_of_mem_eraseIdx hy2), ?_, ?_, fun y hy2 => ?_⟩
    · rw [upd_ne hpq.symm, upd_same]
    · have := (List.getElem?_eq_some_iff.mp hy).1
      rw [List.length_eraseIdx, if_pos this]; omega
    · rw [upd_same, List.map_append]; rfl
    · rw [List.length_append, hyl]; rfl
    · rcases List.mem_append.mp hy2 with h | h
      · exact hya y h
      · rw [List.mem_singleton.mp h]; exact hf
  · rintro σ G ⟨v5, ls, ys, rfl, lg, hq1, hls, hla, hp1, hyl, hya⟩
    exact ⟨_, rfl, k G p ys lg hp0 hp1 (fun e => by rw [e] at hyl; simp at hyl; omega) (by omega) hya⟩
theorem len__law_start {vs : List V} {Q : VK} {E : XK} (h : sp_start K vs H Q E) : vs.length = 1 := by
  obtain ⟨_, rfl, _⟩ := h; rfl
theorem pure__law_start (vs : List V) (H : Hp) (Q : VK) (E : XK) (h : (sp_start K) vs H Q E) : t__law_start K { nx := fun _ H' => Q .non H', rt := Q } (start ["_law_bag_here", "_law_names", "_law_methods", "_law_labels_here"] vs) H := by
  obtain ⟨b, rfl, hb, k⟩ := h
  refine ⟨_, rfl, _, rfl, b, 10, rfl, hb, by decide, by decide, fun G1 d1 l1 a1 c1 => ⟨_, _, rfl, rfl, b, _, rfl, l1.bag hb, by omega, by omega, fun G2 p1 n1 l2 hp1 h1 e1 f1 g1 => ?_⟩⟩
  have lb2 : Le b H G2 := l1.trans l2
  refine ⟨_, rfl, _, rfl, b, 10, rfl, lb2.bag hb, by decide, by decide, fun G3 d3 l3 a3 c3 => ⟨_, _, rfl, rfl, b, _, rfl, l3.bag (lb2.bag hb), by omega, by omega, fun G4 p2 n2 l4 hp2 h2 e2 f2 g2 => ⟨_, _, rfl, ?_⟩⟩⟩
  have lb4 : Le b H G4 := (lb2.trans l3).trans l4
  refine ⟨_, rfl, _, rfl, b, 9, rfl, lb4.bag hb, by decide, by decide, fun G5 d5 l5 a5 c5 => ⟨_, _, rfl, rfl, b, _, rfl, l5.bag (lb4.bag hb), by omega, by omega, fun G6 p3 n3 l6 hp3 h3 e3 f3 g3 => ?_⟩⟩
  have lb6 : Le b H G6 := (lb4.trans l5).trans l6
  have q1 := bag_ne (l1.bag hb) hp1
  have q2 := bag_ne (l3.bag (lb2.bag hb)) hp2
  have q3 := bag_ne (l5.bag (lb4.bag hb)) hp3
  refine s_retU (eu_tup (ea_cons (ev_var rfl) (ea_cons (ev_var rfl) (ea_cons (ev_var rfl) (ea_cons (ev_var rfl) ea_nil)))) (by show 4 ≤ 100000; decide)) fun w G7 hw x7 h7 => ?_
  refine k G7 w (lb6.trans (Le.of x7)) ⟨p1, p2, p3, n1, n2, n3, h7, q1, q2, q3, x7 _ _ (l6.keep _ _ q1 (l5.keep _ _ q1 (l4.keep _ _ q1 (l3.keep _ _ q1 h1)))), x7 _ _ (l6.keep _ _ q2 (l5.keep _ _ q2 h2)), x7 _ _ h3, ⟨e1, e2, e3⟩, ⟨f1, f2, f3⟩, g1, g2, g3⟩
end
end Ef

namespace Ef
open PySem PySem.Spec PyProof.Rows L2 Evl
def Bds.of : List Bdy → Bds
  | [] => .nil
  | b :: r => .cons b (Bds.of r)
theorem of_list : ∀ l : List Bdy, (Bds.of l).list = l
  | [] => by rw [Bds.of, Bds.list]
  | b :: r => by rw [Bds.of, Bds.list, of_list r]
section
variable {K : PySem.W.Frag} {σ : L2.St} {H H1 H2 G : Hp} {ta tb te tl : TE} {v : V} {b r p : Addr}
theorem Le2.refl : Le2 b r H H := ⟨fun _ _ _ _ e => e, fun h => h⟩
theorem Le2.trans (x : Le2 b r H H1) (y : Le2 b r H1 H2) : Le2 b r H H2 := ⟨fun a o n m e => y.keep a o n m (x.keep a o n m e), fun h => y.bag (x.bag h)⟩
theorem Le.two (x : Le b H H1) : Le2 b r H H1 := ⟨fun a o n _ e => x.keep a o n e, x.bag⟩
theorem le2_mut {o : HO} (x : Le2 b r H G) (hb : Bag H b) (hp : H p = none) : Le2 b r H (upd G p o) := by
  have hn : b ≠ p := fun e => hb.none (by rw [e]; exact hp)
  refine ⟨fun a u n m h => by rw [upd_ne (ne_of_none h hp)]; exact x.keep a u n m h, fun _ => ?_⟩
  obtain ⟨u, s, e, r⟩ := x.bag hb
  exact ⟨u, s, by rw [upd_ne hn]; exact e, r⟩
theorem Le2.kt {rm : Int} (x : Le2 b r H H1) (hb : Bag H b) (hr : Room1 H r rm) : KT K H H1 := fun a zs h => by
  obtain ⟨u, s, eb, _⟩ := hb
  have q : ∀ o, H a = some o → (∀ z, o ≠ .lst z) → H1 a = some o := fun o ho hn => x.keep a o (fun e => by subst e; rw [eb] at ho; exact hn _ (Option.some.inj ho).symm) (fun e => by subst e; rw [hr.1] at ho; exact hn _ (Option.some.inj ho).symm) ho
  rcases h with (h | ⟨o, h⟩) | h
  · exact .inl (.inl (q _ h (fun _ e => nomatch e)))
  · exact .inl (.inr ⟨o, q _ h (fun _ e => nomatch e)⟩)
  · exact .inr h
theorem Le.kt (x : Le b H H1) (hb : Bag H b) : KT K H H1 := fun a zs h => by
  obtain ⟨u, s, eb, _⟩ := hb
  have q : ∀ o, H a = some o → (∀ z, o ≠ .lst z) → H1 a = some o := fun o ho hn => x.keep a o (fun e => by subst e; rw [eb] at ho; exact hn _ (Option.some.inj ho).symm) ho
  rcases h with (h | ⟨o, h⟩) | h
  · exact .inl (.inl (q _ h (fun _ e => nomatch e)))
  · exact .inl (.inr ⟨o, q _ h (fun _ e => nomatch e)⟩)
  · exact .inr h
theorem Room1.le {rm : Int} (hr : Room1 H r rm) (x : Le b H H1) (n : r ≠ b) : Room1 H1 r rm := ⟨x.keep _ _ n hr.1, hr.2⟩
theorem Words.le2 {w : Addr} {rm : Int} (x : Le2 b r H H1) (hb : Bag H b) (hr : Room1 H r rm) (h1 : Words K b H w) (h2 : Words K r H w) : Words K b H1 w ∧ Words K r H1 w := by
  obtain ⟨l1, l2, l3, n1, n2, n3, hw, q1, q2, q3, e1, e2, e3, rest⟩ := h1
  obtain ⟨m1, m2, m3, _, _, _, hw2, p1, p2, p3, _⟩ := h2
  rw [hw] at hw2
  have eqs : l1 = m1 ∧ l2 = m2 ∧ l3 = m3 := by
    have := Option.some.inj hw2
    injection this with t
    simp only [List.cons.injEq, V.ref.injEq] at t
    exact ⟨t.1, t.2.1, t.2.2.1⟩
  obtain ⟨rfl, rfl, rfl⟩ := eqs
  obtain ⟨u, s, eb, _⟩ := id hb
  have wb : w ≠ b := ne_of hw eb (fun z => nomatch z)
  have wr : w ≠ r := ne_of hw hr.1 (fun z => nomatch z)
  have k1 := x.keep _ _ q1 p1 e1
  have k2 := x.keep _ _ q2 p2 e2
  have k3 := x.keep _ _ q3 p3 e3
  have kw := x.keep _ _ wb wr hw
  exact ⟨⟨l1, l2, l3, n1, n2, n3, kw, q1, q2, q3, k1, k2, k3, rest⟩, ⟨l1, l2, l3, n1, n2, n3, kw, p1, p2, p3, k1, k2, k3, rest⟩⟩
theorem q_draw {tr : TA} {m : Int} {i : Nat} {tz : TS} {D : Ends} (hA : EvA tr σ H [.ref b, .int m]) (hb : Bag H b) (m0 : 0 < m) (m1 : m ≤ 10 ^ 30) (k : ∀ H1 (d : Int), Le b H H1 → 0 ≤ d → d < m → tz D (σ.set i (some (.int d))) H1) : tSeq (tAsg (tCall sp_draw [] E0 tr) (gName i)) tz D σ H :=
  hA H (Evl.Ex.refl H) _ fun H1 x1 => ⟨b, m, rfl, (Le.of x1).bag hb, m0, m1, fun H2 d l h0 h1 => k H2 d ((Le.of x1).trans l) h0 h1⟩
theorem s_word {tr : TA} {w : Str} {l : Addr} {ns : List Str} {D : Ends} (h : Ev te σ H (.str w)) (hA : EvA tr σ H [.ref b, .ref l]) (hb : Bag H b) (hl : H l = some (.lst (ns.map V.str))) (hn : l ≠ b) (h0 : ns ≠ []) (h1 : ns.length ≤ 12)
    (k : ∀ y ∈ ns, ∀ H1 a, Le b H H1 → H1 a = some (.tup [.str w, .str y]) → D.rt (.ref a) H1) : tRet (tTup (tCons te (tCons (tCall (sp_one K) [] E0 tr) tNil))) D σ H :=
  h H (Evl.Ex.refl H) _ fun H1 x1 => hA H1 x1 _ fun H2 x2 => ⟨b, l, _, rfl, (Le.of (x1.trans x2)).bag hb, hn, sq_of ((x1.trans x2) _ _ hl), fun e => h0 (List.map_eq_nil_iff.mp e), by rw [List.length_map]; omega, fun H3 x l3 hx => by
    obtain ⟨y, hy, rfl⟩ := List.mem_map.mp hx
    exact ⟨by show 2 ≤ sizeLine; decide, fun a ha => k y hy _ a (((Le.of (x1.trans x2)).trans l3).trans (Le.of (Evl.Ex.new ha))) upd_same⟩⟩
theorem e_word4 {tr : TA} {t0 t1 : TE} {w : Str} {l : Addr} {ns : List Str} {u0 u1 : V} {Q : VK} (hA : EvA tr σ H [.ref b, .ref l]) (hb : Bag H b) (hl : H l = some (.lst (ns.map V.str))) (hn : l ≠ b) (h0 : ns ≠ []) (h1 : ns.length ≤ 12)
    (e0 : ∀ H1, Le b H H1 → Ev t0 σ H1 u0) (e1 : ∀ H1, Le b H H1 → Ev t1 σ H1 u1)
    (k : ∀ y ∈ ns, ∀ H1 a, Le b H H1 → H1 a = some (.tup [.str w, .str y, u0, u1]) → Q (.ref a) H1) : tTup (tCons (tC (.str w)) (tCons (tCall (sp_one K) [] E0 tr) (tCons t0 (tCons t1 tNil)))) σ H Q :=
  hA H (Evl.Ex.refl H) _ fun H2 x2 => ⟨b, l, _, rfl, (Le.of x2).bag hb, hn, sq_of (x2 _ _ hl), fun e => h0 (List.map_eq_nil_iff.mp e), by rw [List.length_map]; omega, fun H3 x l3 hx => by
    obtain ⟨y, hy, rfl⟩ := List.mem_map.mp hx
    have l' := (Le.of x2).trans l3
    exact (e0 H3 l') H3 (Evl.Ex.refl H3) _ fun H4 x4 => (e1 H4 (l'.trans (Le.of x4))) H4 (Evl.Ex.refl H4) _ fun H5 x5 => ⟨by show 4 ≤ sizeLine; decide, fun a ha => k y hy _ a (((l'.trans (Le.of x4)).trans (Le.of x5)).trans (Le.of (Evl.Ex.new ha))) upd_same⟩⟩
theorem e_ifF {t : TT} {Q : VK} (h : EvT t σ H false) (k : ∀ H1, Evl.Ex H H1 → tb σ H1 Q) : tIf t ta tb σ H Q := h H (Evl.Ex.refl H) _ fun H1 e => k H1 e
theorem eu_if {t : TT} {b : Bool} {xs : List V} (h : EvT t σ H b) (h1 : b = true → EvU ta σ H xs) (h2 : b = false → EvU tb σ H xs) : EvU (tIf t ta tb) σ H xs := fun H1 e Q q => h H1 e _ fun H2 e2 => by
  cases b with
  | true => exact h1 rfl H2 (e.trans e2) _ fun p H3 hp e3 h3 => q p H3 (fresh_back e2 hp) (e2.trans e3) h3
  | false => exact h2 rfl H2 (e.trans e2) _ fun p H3 hp e3 h3 => q p H3 (fresh_back e2 hp) (e2.trans e3) h3
theorem len__law_step {dp : Nat} {vs : List V} {Q : VK} {E : XK} (h : (sp_lstep K dp) vs H Q E) : vs.length = 4 := by
  obtain ⟨d, _, b, w, r, rm, rfl, _⟩ := h; rfl
theorem len__law_body {dp : Nat} {vs : List V} {Q : VK} {E : XK} (h : (sp_lbody K dp) vs H Q E) : vs.length = 4 := by
  obtain ⟨d, _, b, w, r, rm, rfl, _⟩ := h; rfl
theorem dp_two {x y : V} {d e : PyData} (h1 : Dp K H x d) (h2 : Dp K H y e) : DpAll K H [x, y] [d, e] := .cons h1 (.cons h2 .nil)
theorem altT_len : ∀ (l : List Bdy) (w : Str), (altT w l).length = 3 * l.length + ((l.map fun b : Bdy => b.toks.length).sum)
  | [], w => by rw [altT]; rfl
  | b :: l, w => by
    have := altT_len l "or"
    rw [altT, List.length_cons, List.length_append, curl_len, this, List.length_cons, List.map_cons, List.sum_cons]
    omega
theorem of_ok : ∀ l : List Bdy, (∀ c ∈ l, c.ok) → (Bds.of l).ok
  | [], _ => by rw [Bds.of, Bds.ok]; trivial
  | b :: l, h => by rw [Bds.of, Bds.ok]; exact ⟨h b List.mem_cons_self, of_ok l fun c hc => h c (List.mem_cons_of_mem _ hc)⟩
theorem of_dep (d : Nat) : ∀ l : List Bdy, (∀ c ∈ l, c.dep ≤ d) → (Bds.of l).dep ≤ d
  | [], _ => by rw [Bds.of, Bds.dep]; omega
  | b :: l, h => by
    rw [Bds.of, Bds.dep]
    have := h b List.mem_cons_self
    have := of_dep d l fun c hc => h c (List.mem_cons_of_mem _ hc)
    omega
theorem of_count : ∀ l : List Bdy, (Bds.of l).count = l.length
  | [] => by rw [Bds.of, Bds.count]; rfl
  | b :: l => by rw [Bds.of, Bds.count, of_count l]; rfl
/-- the drawn blocks -/
def Blks (K : PySem.W.Frag) (b r : Addr) (H : Hp) (rm : Int) (d : Nat) (p : Addr) (i : Nat) (G : Hp) : Prop := ∃ (bl : List Bdy) (xs : List V) (rm' : Int), Le2 b r H G ∧ Room1 G r rm' ∧ 0 ≤ rm - rm' ∧ G p = some (.lst xs) ∧ DpAll K G xs (bl.map fun c : Bdy => PyData.tuple c.dats) ∧ bl.length = i ∧ (∀ c ∈ bl, c.ok) ∧ (∀ c ∈ bl, c.dep ≤ d) ∧ (((bl.map fun c : Bdy => c.toks.length).sum : Nat) : Int) ≤ 12 * (rm - rm')
theorem pure__law_step {dp : Nat} (vs : List V) (H : Hp) (Q : VK) (E : XK) (h : (sp_lstep K dp) vs H Q E) : t__law_step K dp { nx := fun _ H' => Q .non H', rt := Q } (start ["_law_bag_here", "_law_words_here", "_law_room", "_law_depth", "_law_kind", "_law_blocks", "_law_turn"] vs) H := by
  obtain ⟨d, hdp, b, w, r, rm, rfl, hb, hrb, hr, hW1, hW2, k⟩ := h
  have fin : ∀ (s : Stp) (G : Hp) (a : Addr), Le b H G → Dp K G (.ref a) s.dat → s.ok → s.dep = 0 → s.toks.length ≤ 12 → Q (.ref a) G := fun s G a l hD ok hd ht =>
    k _ G s rm l.two (hr.le l hrb) hD ⟨ok, by omega, by omega, by omega⟩
  have two : ∀ (x y : Str) (G : Hp) (a : Addr), Le b H G → ((x ∈ wordSteps ∧ fitsW y = true) ∨ (x ∈ classSteps ∧ fitsC y = true)) → G a = some (.tup [.str x, .str y]) → Q (.ref a) G := fun x y G a l ok ha =>
    fin (.word x y) G a l (by rw [Stp.dat]; exact .tup (st_of ha) (.cons (.str _) (.cons (.str _) .nil))) (by rw [Stp.ok]; exact ok) (by rw [Stp.dep]) (by rw [Stp.toks]; show 3 ≤ 12; decide)
  obtain ⟨m, hm0, hm1, hA⟩ : ∃ m : Int, (m = 16 ∧ 0 < d ∨ m = 12) ∧ m ≤ 16 ∧ EvA (tCons (tVar 0) (tCons (tIf (tTest (tOp rGtI (tVar 3) (tC (.int 0)))) (tC (.int 16)) (tC (.int 12))) tNil)) (start ["_law_bag_here", "_law_words_here", "_law_room", "_law_depth", "_law_kind", "_law_blocks", "_law_turn"] [.ref b, .ref w, .ref r, .int d]) H [.ref b, .int m] := by
    by_cases h0 : 0 < d
    · exact ⟨16, .inl ⟨rfl, h0⟩, by decide, ea_cons (ev_var rfl) (ea_cons (ev_if (et_test (ev_op (ev_var rfl) ev_c rv_I0)) (fun _ => ev_c) (fun e => absurd (of_decide_eq_false e) (by omega))) ea_nil)⟩
    · exact ⟨12, .inr rfl, by decide, ea_cons (ev_var rfl) (ea_cons (ev_if (et_test (ev_op (ev_var rfl) ev_c rv_I0)) (fun e => absurd (of_decide_eq_true e) (by omega)) (fun _ => ev_c)) ea_nil)⟩
  refine q_draw hA hb (by omega) (by omega) fun G1 kd l1 k0 k1 => ?_
  have hb1 := l1.bag hb
  obtain ⟨V1, V2⟩ := Words.le2 l1.two hb hr hW1 hW2
  obtain ⟨a1, a2, a3, n1, n2, n3, hw, q1, q2, q3, e1, e2, e3, ⟨z1, z2, z3⟩, ⟨y1, y2, y3⟩, f1, f2, f3⟩ := V1
  refine q_when (et_test (ev_op (ev_var rfl) ev_c rv_I0)) (fun c1 G2 x2 => ?_) (fun c1 G2 x2 => ?_)
  · have c1 := of_decide_eq_true c1
    obtain ⟨x, hx, ex⟩ : ∃ x ∈ wordSteps, atI [V.str "keep", .str "set", .str "keep", .str "set", .str "read", .str "look"] kd = some (.str x) := by
      have : kd = 0 ∨ kd = 1 ∨ kd = 2 ∨ kd = 3 ∨ kd = 4 ∨ kd = 5 := by omega
      rcases this with rfl | rfl | rfl | rfl | rfl | rfl
      · exact ⟨"keep", by decide, rfl⟩
      · exact ⟨"set", by decide, rfl⟩
      · exact ⟨"keep", by decide, rfl⟩
      · exact ⟨"set", by decide, rfl⟩
      · exact ⟨"read", by decide, rfl⟩
      · exact ⟨"look", by decide, rfl⟩
    refine s_word (w := x) (ev_opL1 (el_lst (ea_cons ev_c (ea_cons ev_c (ea_cons ev_c (ea_cons ev_c (ea_cons ev_c (ea_cons ev_c ea_nil)))))) (by show 6 ≤ 100000; decide)) (fun H1 _ => ev_var rfl) fun p H1 hp _ => rv_ixL (sq_of hp) ex) (ea_cons (ev_var rfl) (ea_cons (ev_ixT (ev_var rfl) ev_c (st_of (x2 _ _ hw)) rfl) ea_nil)) ((Le.of x2).bag hb1) (x2 _ _ e1) q1 z1 y1 fun y hy G3 a l3 ha => two x y G3 a ((l1.trans (Le.of x2)).trans l3) (.inl ⟨hx, f1 y hy⟩) ha
  have c1 := of_decide_eq_false c1
  refine q_when (et_test (ev_op (ev_var rfl) ev_c rv_I0)) (fun c2 G3 x3 => ?_) (fun c2 G3 x3 => ?_)
  · have x := x2.trans x3
    exact s_word (w := "call") ev_c (ea_cons (ev_var rfl) (ea_cons (ev_ixT (ev_var rfl) ev_c (st_of (x _ _ hw)) rfl) ea_nil)) ((Le.of x).bag hb1) (x _ _ e2) q2 z2 y2 fun y hy G4 a l4 ha => two "call" y G4 a ((l1.trans (Le.of x)).trans l4) (.inl ⟨by decide, f2 y hy⟩) ha
  have c2 := of_decide_eq_false c2
  have x := x2.trans x3
  have third : (kd = 10 ∨ kd = 11) → ∀ G, Evl.Ex G1 G → Ev (tOp (rIxT K) (tVar 1) (tOp rSubI (tVar 4) (tC (.int 8)))) [some (.ref b), some (.ref w), some (.ref r), some (.int d), some (.int kd), none, none] G (.ref a3) := fun hk G xg =>
    ev_ixT (ev_var rfl) (ev_sub (ev_var rfl) ev_c) (st_of (xg _ _ hw)) (by rcases hk with rfl | rfl <;> rfl)
  refine q_when (b := decide (kd < 10)) (et_is (et_or (b := decide (kd < 10)) (et_test (ev_op (ev_var rfl) ev_c rv_I0)) fun h10 => et_is (et_and (b := false) (et_test (ev_op (ev_var rfl) ev_c rv_I0)) fun h12 => ?_) ?_) (Bool.or_self _)) (fun c3 G4 x4 => ?_) (fun c3 G4 x4 => ?_)
  · have h10 := of_decide_eq_false h10
    have h12 := of_decide_eq_true h12
    refine et_test (ev_is (ev_eqNil (third (by omega) _ x) (sq_of (x _ _ e3)) fun y hy => fitsC_asc (f3 y hy)) ?_)
    cases n3 with
    | nil => exact absurd rfl z3
    | cons _ _ => rfl
  · rw [Bool.and_false, h10]
  · have c3 := of_decide_eq_true c3
    by_cases h9 : kd = 9
    · refine s_retU (eu_if (xs := [.str "fail"]) (et_is (et_test (ev_op (ev_var rfl) ev_c (rv_eq rfl))) (int_dec _ _)) (fun _ => eu_tup (ea_cons ev_c ea_nil) (by show 1 ≤ 100000; decide)) (fun e => absurd h9 (of_decide_eq_false e))) fun a G5 _ x5 ha => ?_
      exact fin (.bare "fail") G5 a (l1.trans (Le.of ((x.trans x4).trans x5))) (by rw [Stp.dat]; exact .tup (st_of ha) (.cons (.str _) .nil)) (by rw [Stp.ok]; decide) (by rw [Stp.dep]) (by rw [Stp.toks]; show 2 ≤ 12; decide)
    · refine s_retU (eu_if (xs := [.str "super"]) (et_is (et_test (ev_op (ev_var rfl) ev_c (rv_eq rfl))) (int_dec _ _)) (fun e => absurd (of_decide_eq_true e) h9) (fun _ => eu_tup (ea_cons ev_c ea_nil) (by show 1 ≤ 100000; decide))) fun a G5 _ x5 ha => ?_
      exact fin (.bare "super") G5 a (l1.trans (Le.of ((x.trans x4).trans x5))) (by rw [Stp.dat]; exact .tup (st_of ha) (.cons (.str _) .nil)) (by rw [Stp.ok]; decide) (by rw [Stp.dep]) (by rw [Stp.toks]; show 2 ≤ 12; decide)
  have c3 := of_decide_eq_false c3
  have x' := x.trans x4
  refine q_when (et_test (ev_op (ev_var rfl) ev_c rv_I0)) (fun c4 G5 x5 => ?_) (fun c4 G5 x5 => ?_)
  · have c4 := of_decide_eq_true c4
    have xx := x'.trans x5
    obtain ⟨u, hu, eu⟩ : ∃ u ∈ classSteps, Ev (tIf (tTest (tOp rEq (tVar 4) (tC (.int 10)))) (tC (.str "of")) (tC (.str "make"))) [some (.ref b), some (.ref w), some (.ref r), some (.int d), some (.int kd), none, none] G5 (.str u) := by
      by_cases h10 : kd = 10
      · exact ⟨"of", by decide, ev_if (et_is (et_test (ev_op (ev_var rfl) ev_c (rv_eq rfl))) (int_dec _ _)) (fun _ => ev_c) (fun e => absurd h10 (of_decide_eq_false e))⟩
      · exact ⟨"make", by decide, ev_if (et_is (et_test (ev_op (ev_var rfl) ev_c (rv_eq rfl))) (int_dec _ _)) (fun e => absurd (of_decide_eq_true e) h10) (fun _ => ev_c)⟩
    exact s_word (w := u) eu (ea_cons (ev_var rfl) (ea_cons (third (by omega) _ xx) ea_nil)) ((Le.of xx).bag hb1) (xx _ _ e3) q3 z3 y3 fun y hy G6 a l6 ha => two u y G6 a ((l1.trans (Le.of xx)).trans l6) (.inr ⟨hu, f3 y hy⟩) ha
  have c4 := of_decide_eq_false c4
  have d0 : 0 < d := by omega
  have x5' := x'.trans x5
  have lb5 : Le b H G5 := l1.trans (Le.of x5')
  refine q_asgL (el_lst ea_nil (by decide)) fun p G6 hp5 x6 h6 => ?_
  have hp : H p = none := lb5.back hb hp5
  have hpb := bag_ne hb hp
  have hpr : p ≠ r := fun e => by subst e; rw [hr.1] at hp; cases hp
  have lb6 : Le b H G6 := lb5.trans (Le.of x6)
  refine ⟨_, rfl, b, 2, rfl, lb6.bag hb, by decide, by decide, fun G7 n l7 hn0 hn1 => ⟨_, _, rfl, rfl, _, rfl, by omega, by omega, ?_⟩⟩
  have lb7 : Le b H G7 := lb6.trans l7
  refine for_range (lo := 0) (n := (2 + n).toNat) (fun i σ G => ∃ v6, σ = [some (.ref b), some (.ref w), some (.ref r), some (.int d), some (.int kd), some (.ref p), v6] ∧ Blks K b r H rm (d - 1) p i G)
    ⟨none, rfl, [], [], rm, lb7.two, hr.le lb7 hrb, by omega, l7.keep _ _ hpb h6, .nil, rfl, fun _ h => (nomatch h), fun _ h => (nomatch h), by simp⟩ ?_ ?_
  · rintro i σ G hi ⟨v6, rfl, bl, xs, rm1, lg, hrm, hge, hp1, hD, hlen, hok, hdep, htok⟩
    obtain ⟨W1, W2⟩ := Words.le2 lg hb hr hW1 hW2
    have hx := dp_len _ _ hD
    rw [List.length_map] at hx
    refine s_appC rfl hp1 ⟨_, rfl, _, rfl, _, rfl, _, rfl, _, _, rfl, rfl, d - 1, by omega, b, w, r, rm1, ?_, lg.bag hb, hrb, hrm, W1, W2, fun u G2 c rm2 l2 hr2 hu ⟨ok1, ok2, ok3, ok4⟩ => ?_⟩
    · rw [show ((d - 1 : Nat) : Int) = (d : Int) - 1 by omega]; rfl
    · have hp2 : G2 p = some (.lst xs) := l2.keep _ _ hpb hpr hp1
      have kt := (Le2.kt (K := K) l2 (lg.bag hb) hrm)
      refine ⟨p, xs, u, rfl, rfl, hp2, sz_lt (by omega), _, rfl, bl ++ [c], _, rm2, le2_mut (lg.trans l2) hb hp, ⟨by rw [upd_ne hpr.symm]; exact hr2.1, hr2.2⟩, by omega, upd_same, ?_, ?_, ?_, ?_, ?_⟩
      · rw [List.map_append]
        exact dp_snoc (Bdy.mvt (kt_mut hp2) c hu) _ _ (mvB (kt_mut hp2) _ _ (mvB kt _ _ hD))
      · rw [List.length_append, hlen]; rfl
      · intro e he
        rcases List.mem_append.mp he with h | h
        · exact hok e h
        · rw [List.mem_singleton.mp h]; exact ok1
      · intro e he
        rcases List.mem_append.mp he with h | h
        · exact hdep e h
        · rw [List.mem_singleton.mp h]; exact ok2
      · rw [List.map_append, List.sum_append, List.map_singleton, List.sum_singleton]
        omega
  · rintro σ G ⟨v6, rfl, bl, xs, rm1, lg, hrm, hge, hp1, hD, hlen, hok, hdep, htok⟩
    obtain ⟨W1, W2⟩ := Words.le2 lg hb hr hW1 hW2
    have hx := dp_len _ _ hD
    rw [List.length_map] at hx
    -- the first two
    obtain ⟨c0, c1', cr, rfl⟩ : ∃ c0 c1' cr, bl = c0 :: c1' :: cr := by
      match bl, hlen with
      | [], h => simp at h; omega
      | [_], h => simp at h; omega
      | c0 :: c1 :: cr, _ => exact ⟨c0, c1, cr, rfl⟩
    obtain ⟨u0, u1, ur, rfl⟩ : ∃ u0 u1 ur, xs = u0 :: u1 :: ur := by
      match xs, hx with
      | [], h => simp at h
      | [_], h => simp at h
      | u0 :: u1 :: ur, _ => exact ⟨u0, u1, ur, rfl⟩
    obtain ⟨hd0, hd1⟩ : Dp K G u0 (.tuple c0.dats) ∧ Dp K G u1 (.tuple c1'.dats) := by
      cases hD with
      | cons h1 h2 =>
        cases h2 with
        | cons h3 _ => exact ⟨h1, h3⟩
    have okA := hok c0 List.mem_cons_self
    have okB := hok c1' (List.mem_cons_of_mem _ List.mem_cons_self)
    have dpA := hdep c0 List.mem_cons_self
    have dpB := hdep c1' (List.mem_cons_of_mem _ List.mem_cons_self)
    have htok2 : ((c0.toks.length + (c1'.toks.length + (cr.map fun c : Bdy => c.toks.length).sum) : Nat) : Int) ≤ 12 * (rm - rm1) := by
      simpa [List.map_cons, List.sum_cons] using htok
    have fin2 : ∀ (s : Stp) (G' : Hp) (a : Addr), Le b G G' → Dp K G' (.ref a) s.dat → s.ok → s.dep ≤ d → (s.toks.length : Int) ≤ 12 + 12 * (rm - rm1) → Q (.ref a) G' := fun s G' a l hD ok hd ht =>
      k _ G' s rm1 (lg.trans l.two) (hrm.le l hrb) hD ⟨ok, hd, ht, hge⟩
    have i0 : ∀ G', Evl.Ex G G' → Ev (tOp (rIxL K) (tVar 5) (tC (.int 0))) [some (.ref b), some (.ref w), some (.ref r), some (.int d), some (.int kd), some (.ref p), v6] G' u0 := fun G' x => ev_ix (ev_var rfl) ev_c (sq_of (x _ _ hp1)) (atI_nat (j := 0) rfl)
    have i1 : ∀ G', Evl.Ex G G' → Ev (tOp (rIxL K) (tVar 5) (tC (.int 1))) [some (.ref b), some (.ref w), some (.ref r), some (.int d), some (.int kd), some (.ref p), v6] G' u1 := fun G' x => ev_ix (ev_var rfl) ev_c (sq_of (x _ _ hp1)) (atI_nat (j := 1) rfl)
    refine q_when (et_is (et_test (ev_op (ev_var rfl) ev_c (rv_eq rfl))) (int_dec _ _)) (fun t1 G8 x8 => ?_) (fun t1 G8 x8 => ?_)
    · obtain ⟨g1, g2, g3, n1, n2, n3, hw, q1, q2, q3, e1, e2, e3, ⟨z1, z2, z3⟩, ⟨y1, y2, y3⟩, f1, f2, f3⟩ := W1
      have bG := lg.bag hb
      refine e_word4 (w := "if") (Q := Q) (ea_cons (ev_var rfl) (ea_cons (ev_ixT (ev_var rfl) ev_c (st_of (x8 _ _ hw)) rfl) ea_nil)) ((Le.of x8).bag bG) (x8 _ _ e1) q1 z1 y1 (fun G' l => ev_ix (ev_var rfl) ev_c (sq_of (l.keep _ _ hpb (x8 _ _ hp1))) (atI_nat (j := 0) rfl)) (fun G' l => ev_ix (ev_var rfl) ev_c (sq_of (l.keep _ _ hpb (x8 _ _ hp1))) (atI_nat (j := 1) rfl)) fun y hy G' a l ha => ?_
      have l' : Le b G G' := (Le.of x8).trans l
      have kt : KT K G G' := l'.kt bG
      refine fin2 (.cond y c0 c1') G' a l' (by rw [Stp.dat]; exact .tup (st_of ha) (.cons (.str _) (.cons (.str _) (.cons (Bdy.mvt kt _ hd0) (.cons (Bdy.mvt kt _ hd1) .nil))))) (by rw [Stp.ok]; exact ⟨f1 y hy, okA, okB⟩) (by rw [Stp.dep]; omega) ?_
      rw [Stp.toks]
      simp only [List.length_cons, List.length_append, curl_len]
      omega
    refine q_when (et_is (et_test (ev_op (ev_var rfl) ev_c (rv_eq rfl))) (int_dec _ _)) (fun t2 G9 x9 => ?_) (fun t2 G9 x9 => ?_)
    · have y := x8.trans x9
      refine s_retU (eu_tup (ea_cons ev_c (ea_cons (i0 _ y) (ea_cons (i1 _ y) ea_nil))) (by show 3 ≤ 100000; decide)) fun a G10 _ x10 ha => ?_
      have y' := y.trans x10
      refine fin2 (.tri c0 c1') G10 a (Le.of y') (by rw [Stp.dat]; exact .tup (st_of ha) (.cons (.str _) (.cons (Bdy.mvt (KT.of y') _ hd0) (.cons (Bdy.mvt (KT.of y') _ hd1) .nil)))) (by rw [Stp.ok]; exact ⟨okA, okB⟩) (by rw [Stp.dep]; omega) ?_
      rw [Stp.toks]
      simp only [List.length_cons, List.length_append, curl_len]
      omega
    have y := x8.trans x9
    by_cases h14 : kd = 14
    · refine s_retU (eu_if (xs := [.str "loop", u0]) (et_is (et_test (ev_op (ev_var rfl) ev_c (rv_eq rfl))) (int_dec _ _)) (fun _ => eu_tup (ea_cons ev_c (ea_cons (i0 _ y) ea_nil)) (by show 2 ≤ 100000; decide)) (fun e => absurd h14 (of_decide_eq_false e))) fun a G10 _ x10 ha => ?_
      have y' := y.trans x10
      refine fin2 (.loop c0) G10 a (Le.of y') (by rw [Stp.dat]; exact .tup (st_of ha) (.cons (.str _) (.cons (Bdy.mvt (KT.of y') _ hd0) .nil))) (by rw [Stp.ok]; exact okA) (by rw [Stp.dep]; omega) ?_
      rw [Stp.toks]
      simp only [List.length_cons, List.length_append, curl_len]
      omega
    · refine e_ifF (Q := Q) (et_is (et_test (ev_op (ev_var rfl) ev_c (rv_eq rfl))) (b := false) (by rw [int_dec]; exact decide_eq_false h14)) fun G10 x10 => ⟨_, rfl, p, _, rfl, .inl ⟨sq_of ((y.trans x10) _ _ hp1), fun l hl => ⟨by show 2 ≤ sizeLine; decide, fun a ha => ?_⟩⟩⟩
      have y' := (y.trans x10).trans (Evl.Ex.new (o := .tup (u0 :: u1 :: ur)) hl)
      have y2 := y'.trans (Evl.Ex.new (o := .tup [.str "either", .ref l]) ha)
      refine fin2 (.alt (Bds.of (c0 :: c1' :: cr))) _ a (Le.of y2) ?_ (by rw [Stp.ok]; exact ⟨by rw [of_count, List.length_cons, List.length_cons]; omega, of_ok _ hok⟩) (by rw [Stp.dep]; have := of_dep (d - 1) _ hdep; omega) ?_
      · rw [Stp.dat, bdats_list, of_list]
        exact .tup (st_of upd_same) (.cons (.str _) (.cons (.tup (st_of (Evl.Ex.new ha _ _ upd_same)) (mvB (KT.of y2) _ _ hD)) .nil))
      · rw [Stp.toks, altT_list, of_list, altT_len]
        rw [List.length_cons, List.length_cons, List.map_cons, List.map_cons, List.sum_cons, List.sum_cons]
        rw [List.length_cons, List.length_cons] at hlen
        omega
/-! bodies -/
def Bdy.of : List Stp → Bdy
  | [] => .nil
  | s :: r => .cons s (Bdy.of r)
theorem bof_steps : ∀ l : List Stp, (Bdy.of l).steps = l
  | [] => by rw [Bdy.of, Bdy.steps]
  | s :: r => by rw [Bdy.of, Bdy.steps, bof_steps r]
theorem bof_ok : ∀ l : List Stp, (∀ c ∈ l, c.ok) → (Bdy.of l).ok
  | [], _ => by rw [Bdy.of, Bdy.ok]; trivial
  | s :: l, h => by rw [Bdy.of, Bdy.ok]; exact ⟨h s List.mem_cons_self, bof_ok l fun c hc => h c (List.mem_cons_of_mem _ hc)⟩
theorem bof_dep (d : Nat) : ∀ l : List Stp, (∀ c ∈ l, c.dep ≤ d) → (Bdy.of l).dep ≤ d
  | [], _ => by rw [Bdy.of, Bdy.dep]; omega
  | s :: l, h => by
    rw [Bdy.of, Bdy.dep]
    have := h s List.mem_cons_self
    have := bof_dep d l fun c hc => h c (List.mem_cons_of_mem _ hc)
    omega
theorem pure__law_body {dp : Nat} (vs : List V) (H : Hp) (Q : VK) (E : XK) (h : (sp_lbody K (dp + 1)) vs H Q E) : t__law_body K dp { nx := fun _ H' => Q .non H', rt := Q } (start ["_law_bag_here", "_law_words_here", "_law_room", "_law_depth", "_law_steps", "_law_turn"] vs) H := by
  obtain ⟨d, hdp, b, w, r, rm, rfl, hb, hrb, hr, hW1, hW2, k⟩ := h
  refine q_asgL (el_lst ea_nil (by decide)) fun p G6 hp x6 h6 => ?_
  have hpb := bag_ne hb hp
  have hpr : p ≠ r := fun e => by subst e; rw [hr.1] at hp; cases hp
  have lb6 : Le b H G6 := Le.of x6
  refine ⟨_, rfl, b, 4, rfl, lb6.bag hb, by decide, by decide, fun G7 n l7 hn0 hn1 => ⟨_, rfl, by omega, by omega, ?_⟩⟩
  have lb7 : Le b H G7 := lb6.trans l7
  refine for_range (lo := 0) (n := n.toNat) (fun i σ G => ∃ v5, σ = [some (.ref b), some (.ref w), some (.ref r), some (.int d), some (.ref p), v5] ∧ ∃ (ss : List Stp) (xs : List V) (rm' : Int), Le2 b r H G ∧ Room1 G r rm' ∧ 0 ≤ rm - rm' ∧ G p = some (.lst xs) ∧ DpAll K G xs (ss.map Stp.dat) ∧ ss.length ≤ i ∧ (∀ c ∈ ss, c.ok) ∧ (∀ c ∈ ss, c.dep ≤ d) ∧ (((ss.map Stp.toks).flatten.length : Nat) : Int) ≤ 12 * (rm - rm'))
    ⟨none, rfl, [], [], rm, lb7.two, hr.le lb7 hrb, by omega, l7.keep _ _ hpb h6, .nil, Nat.zero_le _, fun _ h => (nomatch h), fun _ h => (nomatch h), by simp⟩ ?_ ?_
  · rintro i σ G hi ⟨v5, rfl, ss, xs, rm1, lg, hrm, hge, hp1, hD, hlen, hok, hdep, htok⟩
    have hx := dp_len _ _ hD
    rw [List.length_map] at hx
    refine s_if (b := decide (0 < rm1)) (et_test (ev_op (ev_ix (ev_var rfl) ev_c (sq_of hrm.1) rfl) ev_c rv_I0)) (fun c1 G1 x1 => ?_) (fun c1 G1 x1 => ?_)
    · have c1 := of_decide_eq_true c1
      refine q_setL (j := 0) (x1 _ _ hrm.1) (ev_sub (ev_ix (ev_var rfl) ev_c (sq_of (x1 _ _ hrm.1)) rfl) ev_c) (ev_var rfl) ev_c (by show 0 < 1; decide) fun G2 x2 => ?_
      have hbG := lg.bag hb
      have l2 : Le2 b r G (upd G2 r (.lst [.int (rm1 - 1)])) := by
        refine ⟨fun a o n m e => by rw [upd_ne m]; exact (x1.trans x2) _ _ e, fun _ => ?_⟩
        obtain ⟨u, s, e, z⟩ := hbG
        exact ⟨u, s, by rw [upd_ne hrb.symm]; exact (x1.trans x2) _ _ e, z⟩
      have hr2 : Room1 (upd G2 r (.lst [.int (rm1 - 1)])) r (rm1 - 1) := ⟨upd_same, by have := hrm.2; omega, by have := hrm.2; omega⟩
      have lH := lg.trans l2
      obtain ⟨W1, W2⟩ := Words.le2 lH hb hr hW1 hW2
      have hp2 : (upd G2 r (.lst [.int (rm1 - 1)])) p = some (.lst xs) := l2.keep _ _ hpb hpr hp1
      have kt2 : KT K G (upd G2 r (.lst [.int (rm1 - 1)])) := Le2.kt l2 hbG hrm
      refine s_appC rfl hp2 ⟨_, rfl, _, rfl, _, rfl, _, rfl, d, by omega, b, w, r, rm1 - 1, rfl, lH.bag hb, hrb, hr2, W1, W2, fun u G3 c rm2 l3 hr3 hu ⟨ok1, ok2, ok3, ok4⟩ => ?_⟩
      have hp3 : G3 p = some (.lst xs) := l3.keep _ _ hpb hpr hp2
      have kt3 : KT K (upd G2 r (.lst [.int (rm1 - 1)])) G3 := Le2.kt l3 (lH.bag hb) hr2
      refine ⟨p, xs, u, rfl, rfl, hp3, sz_lt (by omega), _, rfl, ss ++ [c], _, rm2, le2_mut (lH.trans l3) hb hp, ⟨by rw [upd_ne hpr.symm]; exact hr3.1, hr3.2⟩, by omega, upd_same, ?_, ?_, ?_, ?_, ?_⟩
      · rw [List.map_append]
        exact dp_snoc (Stp.mv (kt_mut hp3) c _ hu) _ _ (mvS (kt_mut hp3) _ _ (mvS kt3 _ _ (mvS kt2 _ _ hD)))
      · rw [List.length_append, List.length_singleton]; omega
      · intro e he
        rcases List.mem_append.mp he with h | h
        · exact hok e h
        · rw [List.mem_singleton.mp h]; exact ok1
      · intro e he
        rcases List.mem_append.mp he with h | h
        · exact hdep e h
        · rw [List.mem_singleton.mp h]; exact ok2
      · rw [List.map_append, List.flatten_append, List.length_append, List.map_singleton, List.flatten_singleton]
        omega
    · exact ⟨_, rfl, ss, xs, rm1, lg.trans (Le.of x1).two, hrm.le (Le.of (b := b) x1) hrb, hge, x1 _ _ hp1, mvS (KT.of x1) _ _ hD, by omega, hok, hdep, htok⟩
  · rintro σ G ⟨v5, rfl, ss, xs, rm1, lg, hrm, hge, hp1, hD, hlen, hok, hdep, htok⟩
    refine ⟨_, rfl, p, xs, rfl, .inl ⟨sq_of hp1, fun a ha => ?_⟩⟩
    have x := Evl.Ex.new (o := .tup xs) ha
    refine k _ _ (Bdy.of ss) rm1 (lg.trans (Le.of x).two) (hrm.le (Le.of (b := b) x) hrb) ?_ ⟨bof_ok ss hok, bof_dep d ss hdep, by rw [toks_list, bof_steps]; exact htok, hge⟩
    show Dp K _ _ (.tuple (Bdy.dats (Bdy.of ss)))
    rw [dats_list, bof_steps]
    exact .tup (st_of upd_same) (mvS (KT.of x) _ _ hD)
end
end Ef

namespace Ef
open PySem PySem.Spec PyProof.Rows L2 Evl
section
variable {K : PySem.W.Frag} {σ : L2.St} {H H1 H2 G : Hp} {ta tb te tl : TE} {v : V} {b r p : Addr}
theorem len__law_tower {vs : List V} {Q : VK} {E : XK} (h : (sp_tower K) vs H Q E) : vs.length = 4 := by
  obtain ⟨_, _, _, _, _, _, rfl, _⟩ := h; rfl
theorem dp_app : ∀ (ds : List PyData) (xs : List V) {es : List PyData} {ys : List V}, DpAll K H xs ds → DpAll K H ys es → DpAll K H (xs ++ ys) (ds ++ es)
  | [], _, _, _, h, h2 => by cases h; exact h2
  | d :: ds, _, _, _, h, h2 => by
    cases h with
    | cons a b => exact .cons a (dp_app ds _ b h2)
theorem dp_take : ∀ (j : Nat) (ds : List PyData) (xs : List V), DpAll K H xs ds → DpAll K H (xs.take j) (ds.take j)
  | 0, _, _, _ => by rw [List.take_zero, List.take_zero]; exact .nil
  | j + 1, [], _, h => by cases h; exact .nil
  | j + 1, d :: ds, _, h => by
    cases h with
    | cons a b => exact .cons a (dp_take j ds _ b)
theorem dp_drop : ∀ (j : Nat) (ds : List PyData) (xs : List V), DpAll K H xs ds → DpAll K H (xs.drop j) (ds.drop j)
  | 0, _, _, h => h
  | j + 1, [], _, h => by cases h; exact .nil
  | j + 1, d :: ds, _, h => by
    cases h with
    | cons a b => exact dp_drop j ds _ b
theorem dp_rep {x : V} {d : PyData} (h : Dp K H x d) : ∀ n : Nat, DpAll K H (List.replicate n x) (List.replicate n d)
  | 0 => .nil
  | n + 1 => .cons h (dp_rep h n)
theorem rep_flat {α : Type} (x : α) : ∀ n : Nat, (List.replicate n [x]).flatten = List.replicate n x
  | 0 => rfl
  | n + 1 => by rw [List.replicate_succ, List.flatten_cons, rep_flat x n]; rfl
def failB : Bdy := .cons (.bare "fail") .nil
/-- a block put into some blocks -/
def insB (n j : Nat) (c : Bdy) : List Bdy := (List.replicate n failB).take j ++ [c] ++ (List.replicate n failB).drop j
theorem insB_mem {n j : Nat} {c d : Bdy} (h : d ∈ insB n j c) : d = c ∨ d = failB := by
  unfold insB at h
  rcases List.mem_append.mp h with h | h
  · rcases List.mem_append.mp h with h | h
    · exact .inr (List.eq_of_mem_replicate (List.mem_of_mem_take h))
    · exact .inl (List.mem_singleton.mp h)
  · exact .inr (List.eq_of_mem_replicate (List.mem_of_mem_drop h))
theorem insB_len (n j : Nat) (c : Bdy) : (insB n j c).length = n + 1 := by
  have := congrArg List.length (List.take_append_drop j (List.replicate n failB))
  rw [List.length_append, List.length_replicate] at this
  unfold insB
  rw [List.length_append, List.length_append, List.length_singleton]
  omega
theorem failB_toks : failB.toks.length = 2 := by unfold failB; rw [Bdy.toks, Stp.toks, Bdy.toks]; rfl
theorem rep_sum (f : Bdy → Nat) : ∀ n : Nat, ((List.replicate n failB).map f).sum = n * f failB
  | 0 => by simp
  | n + 1 => by rw [List.replicate_succ, List.map_cons, List.sum_cons, rep_sum f n, Nat.add_mul]; omega
theorem insB_sum (n j : Nat) (c : Bdy) : ((insB n j c).map fun d : Bdy => d.toks.length).sum = 2 * n + c.toks.length := by
  have h := congrArg List.sum (congrArg (List.map fun d : Bdy => d.toks.length) (List.take_append_drop j (List.replicate n failB)))
  rw [List.map_append, List.sum_append, rep_sum, failB_toks] at h
  unfold insB
  rw [List.map_append, List.map_append, List.sum_append, List.sum_append, List.map_singleton, List.sum_singleton]
  omega
theorem insB_dats (n j : Nat) (c : Bdy) : (insB n j c).map (fun d : Bdy => PyData.tuple d.dats) = (List.replicate n (PyData.tuple failB.dats)).take j ++ [PyData.tuple c.dats] ++ (List.replicate n (PyData.tuple failB.dats)).drop j := by
  unfold insB
  rw [List.map_append, List.map_append, List.map_take, List.map_drop, List.map_replicate]; rfl
theorem failB_ok : failB.ok := by unfold failB; rw [Bdy.ok, Bdy.ok, Stp.ok]; exact ⟨by decide, trivial⟩
theorem failB_dep : failB.dep = 0 := by unfold failB; rw [Bdy.dep, Bdy.dep, Stp.dep]; rfl
def t_chain (K : PySem.W.Frag) : TS := tIfS (tTest (tOp rEq (tVar 5) (tC (.int 0)))) (tAsg (tTup (tCons (tC (.str "loop")) (tCons (tVar 2) tNil))) (gName 7)) (tIfS (tTest (tOp rEq (tVar 5) (tC (.int 1)))) (tAsg (tTup (tCons (tC (.str "try")) (tCons (tOp (rIxL K) (tVar 6) (tC (.int 0))) (tCons (tOp (rIxL K) (tVar 6) (tC (.int 1))) tNil)))) (gName 7)) (tIfS (tTest (tOp rEq (tVar 5) (tC (.int 2)))) (tAsg (tTup (tCons (tC (.str "if")) (tCons (tCall (sp_one K) [] E0 (tCons (tVar 0) (tCons (tVar 1) tNil))) (tCons (tOp (rIxL K) (tVar 6) (tC (.int 0))) (tCons (tOp (rIxL K) (tVar 6) (tC (.int 1))) tNil))))) (gName 7)) (tSeq (tAsg (tOp rRep (tLst (tCons (tTup (tCons (tTup (tCons (tC (.str "fail")) tNil)) tNil)) tNil)) (tOp rAddI (tC (.int 1)) (tCall sp_draw [] E0 (tCons (tVar 0) (tCons (tC (.int 3)) tNil))))) (gName 8)) (tSeq (tDrop (tBM K "list" rInsL (tVar 8) (tCons (tCall sp_draw [] E0 (tCons (tVar 0) (tCons (tOp rAddI (tCB (rLenSq K) (tCons (tVar 8) tNil)) (tC (.int 1))) tNil))) (tCons (tVar 2) tNil)))) (tAsg (tTup (tCons (tC (.str "either")) (tCons (tCB (rTupOf K) (tCons (tVar 8) tNil)) tNil))) (gName 7))))))
theorem et_intEq {i j : Int} (ha : Ev ta σ H (.int i)) (hb : Ev tb σ H (.int j)) : EvT (tTest (tOp rEq ta tb)) σ H (decide (i = j)) := et_is (et_test (ev_op ha hb (rv_eq rfl))) (int_dec _ _)
/-- the step of one turn -/
theorem tower_step {D : Ends} {l q : Addr} {ns : List Str} {c c0 c1 : Bdy} {v2 x0 x1 : V} {m kd : Int} {v4 v7 v8 : Option V} (hb : Bag G b) (hlb : l ≠ b) (hl : G l = some (.lst (ns.map V.str))) (hn0 : ns ≠ []) (hn1 : ns.length ≤ 12) (hns : ∀ y ∈ ns, fitsW y = true)
    (hv : Dp K G v2 (.tuple c.dats)) (ok : c.ok) (hq : G q = some (.lst [x0, x1])) (hqb : q ≠ b) (h0 : Dp K G x0 (.tuple c0.dats)) (h1 : Dp K G x1 (.tuple c1.dats)) (ok0 : c0.ok) (ok1 : c1.ok) (d01 : max c0.dep c1.dep = c.dep) (t01 : c0.toks.length + c1.toks.length ≤ c.toks.length) (k0 : 0 ≤ kd) (k1 : kd < 5)
    (k : ∀ (s : Stp) (G' : Hp) (t : Addr) v8', Le b G G' → Dp K G' (.ref t) s.dat → s.ok → s.dep = c.dep + 1 → s.toks.length ≤ c.toks.length + 30 → D.nx [some (.ref b), some (.ref l), some v2, some (.int m), v4, some (.int kd), some (.ref q), some (.ref t), v8'] G') :
    t_chain K D [some (.ref b), some (.ref l), some v2, some (.int m), v4, some (.int kd), some (.ref q), v7, v8] G := by
  have i0 : ∀ G', Le b G G' → Ev (tOp (rIxL K) (tVar 6) (tC (.int 0))) [some (.ref b), some (.ref l), some v2, some (.int m), v4, some (.int kd), some (.ref q), v7, v8] G' x0 := fun G' x => ev_ix (ev_var rfl) ev_c (sq_of (x.keep _ _ hqb hq)) rfl
  have i1 : ∀ G', Le b G G' → Ev (tOp (rIxL K) (tVar 6) (tC (.int 1))) [some (.ref b), some (.ref l), some v2, some (.int m), v4, some (.int kd), some (.ref q), v7, v8] G' x1 := fun G' x => ev_ix (ev_var rfl) ev_c (sq_of (x.keep _ _ hqb hq)) rfl
  refine s_if (et_intEq (ev_var rfl) ev_c) (fun e G1 x1' => ?_) (fun e G1 x1' => ?_)
  · refine s_asgU (eu_tup (ea_cons ev_c (ea_cons (ev_var rfl) ea_nil)) (by show 2 ≤ 100000; decide)) fun a G2 _ x2 ha => ?_
    have x := x1'.trans x2
    exact k (.loop c) G2 a v8 (Le.of x) (by rw [Stp.dat]; exact .tup (st_of ha) (.cons (.str _) (.cons (Bdy.mvt (KT.of x) _ hv) .nil))) (by rw [Stp.ok]; exact ok) (by rw [Stp.dep]) (by rw [Stp.toks, List.length_cons, curl_len]; omega)
  have e := of_decide_eq_false e
  refine s_if (et_intEq (ev_var rfl) ev_c) (fun e2 G2 x2 => ?_) (fun e2 G2 x2 => ?_)
  · have x := x1'.trans x2
    refine s_asgU (eu_tup (ea_cons ev_c (ea_cons (i0 _ (Le.of x)) (ea_cons (i1 _ (Le.of x)) ea_nil))) (by show 3 ≤ 100000; decide)) fun a G3 _ x3 ha => ?_
    have x := x.trans x3
    exact k (.tri c0 c1) G3 a v8 (Le.of x) (by rw [Stp.dat]; exact .tup (st_of ha) (.cons (.str _) (.cons (Bdy.mvt (KT.of x) _ h0) (.cons (Bdy.mvt (KT.of x) _ h1) .nil)))) (by rw [Stp.ok]; exact ⟨ok0, ok1⟩) (by rw [Stp.dep]; omega) (by rw [Stp.toks]; simp only [List.length_cons, List.length_append, curl_len]; omega)
  have e2 := of_decide_eq_false e2
  have x := x1'.trans x2
  refine s_if (et_intEq (ev_var rfl) ev_c) (fun e3 G3 x3 => ?_) (fun e3 G3 x3 => ?_)
  · have x := x.trans x3
    refine e_word4 (w := "if") (Q := fun v H => D.nx [some (.ref b), some (.ref l), some v2, some (.int m), v4, some (.int kd), some (.ref q), some v, v8] H) (ea_cons (ev_var rfl) (ea_cons (ev_var rfl) ea_nil)) ((Le.of x).bag hb) (x _ _ hl) hlb hn0 hn1 (fun G' l => i0 _ ((Le.of x).trans l)) (fun G' l => i1 _ ((Le.of x).trans l)) fun y hy G' a l ha => ?_
    have l' : Le b G G' := (Le.of x).trans l
    have kt : KT K G G' := l'.kt hb
    exact k (.cond y c0 c1) G' a v8 l' (by rw [Stp.dat]; exact .tup (st_of ha) (.cons (.str _) (.cons (.str _) (.cons (Bdy.mvt kt _ h0) (.cons (Bdy.mvt kt _ h1) .nil))))) (by rw [Stp.ok]; exact ⟨hns y hy, ok0, ok1⟩) (by rw [Stp.dep]; omega) (by rw [Stp.toks]; simp only [List.length_cons, List.length_append, curl_len]; omega)
  have x := x.trans x3
  refine ⟨by show 1 ≤ sizeLine; decide, fun f1 hf1 => ⟨by show 1 ≤ sizeLine; decide, fun f2 hf2 => ⟨by show 1 ≤ sizeLine; decide, fun f3 hf3 => ?_⟩⟩⟩
  have xf : Evl.Ex G (upd (upd (upd G3 f1 (.tup [.str "fail"])) f2 (.tup [.ref f1])) f3 (.lst [.ref f2])) := ((x.trans (Evl.Ex.new hf1)).trans (Evl.Ex.new hf2)).trans (Evl.Ex.new hf3)
  have lf : Le b G (upd (upd (upd G3 f1 (.tup [.str "fail"])) f2 (.tup [.ref f1])) f3 (.lst [.ref f2])) := Le.of xf
  have hf3b : f3 ≠ b := bag_ne ((Le.of ((x.trans (Evl.Ex.new hf1)).trans (Evl.Ex.new hf2))).bag hb) hf3
  have hF0 : Dp K (upd (upd (upd G3 f1 (.tup [.str "fail"])) f2 (.tup [.ref f1])) f3 (.lst [.ref f2])) (.ref f2) (.tuple failB.dats) := by
    have e1 : (upd (upd (upd G3 f1 (.tup [.str "fail"])) f2 (.tup [.ref f1])) f3 (.lst [.ref f2])) f1 = some (.tup [.str "fail"]) := Evl.Ex.new hf3 _ _ (Evl.Ex.new hf2 _ _ upd_same)
    have e2 : (upd (upd (upd G3 f1 (.tup [.str "fail"])) f2 (.tup [.ref f1])) f3 (.lst [.ref f2])) f2 = some (.tup [.ref f1]) := Evl.Ex.new hf3 _ _ upd_same
    unfold failB
    rw [Bdy.dats, Bdy.dats, Stp.dat]
    exact .tup (st_of e2) (.cons (.tup (st_of e1) (.cons (.str _) .nil)) .nil)
  refine ⟨_, rfl, b, 3, rfl, lf.bag hb, by decide, by decide, fun G4 n l4 n0 n1 => ⟨_, _, rfl, rfl, f3, _, _, rfl, rfl, l4.keep _ _ hf3b upd_same, by omega, by omega, ?_, fun p hp => ?_⟩⟩
  · show 1 * (1 + n).toNat ≤ sizeLine
    exact sz_of (by omega)
  rw [rep_flat]
  have l4' : Le b G G4 := lf.trans l4
  have hpG : G p = none := l4'.back hb hp
  have hpb := bag_ne hb hpG
  have l5 : Le b G (upd G4 p (.lst (List.replicate (1 + n).toNat (.ref f2)))) := l4'.trans (Le.of (Evl.Ex.new hp))
  refine ⟨_, rfl, Or.inl ⟨rfl, _, sq_of upd_same⟩, _, rfl, _, rfl, p, _, rfl, .inl (sq_of upd_same), _, _, rfl, rfl, b, _, rfl, l5.bag hb, by rw [List.length_replicate]; omega, by rw [List.length_replicate]; omega, fun G6 j l6 j0 j1 => ⟨_, rfl, p, _, j, v2, rfl, rfl, l6.keep _ _ hpb upd_same, by rw [List.length_replicate]; exact sz_lt (by omega), j0, ?_, ?_⟩⟩
  · rw [List.length_replicate] at j1; omega
  have l6' : Le b G G6 := l5.trans l6
  have kt6 : KT K (upd (upd (upd G3 f1 (.tup [.str "fail"])) f2 (.tup [.ref f1])) f3 (.lst [.ref f2])) G6 := ((l4.trans (Le.of (Evl.Ex.new hp))).trans l6).kt (lf.bag hb)
  have hp6 := l6.keep _ _ hpb (upd_same (H := G4) (a := p) (o := .lst (List.replicate (1 + n).toNat (.ref f2))))
  refine ⟨_, rfl, p, _, rfl, .inl ⟨sq_of upd_same, fun t1 ht1 => ⟨by show 2 ≤ sizeLine; decide, fun t2 ht2 => ?_⟩⟩⟩
  have l7 : Le b G _ := ((le_mut (o := .lst ((List.replicate (1 + n).toNat (.ref f2)).take j.toNat ++ [v2] ++ (List.replicate (1 + n).toNat (.ref f2)).drop j.toNat)) l6' hb hpG).trans (Le.of (Evl.Ex.new ht1))).trans (Le.of (Evl.Ex.new (o := .tup [.str "either", .ref t1]) ht2))
  have kt7 : KT K G6 _ := fun a zs h => KT.of ((Evl.Ex.new ht1).trans (Evl.Ex.new (o := .tup [.str "either", .ref t1]) ht2)) a zs (kt_mut (ys := (List.replicate (1 + n).toNat (.ref f2)).take j.toNat ++ [v2] ++ (List.replicate (1 + n).toNat (.ref f2)).drop j.toNat) hp6 a zs h)
  refine k (.alt (Bds.of (insB (1 + n).toNat j.toNat c))) _ t2 _ l7 ?_ ?_ ?_ ?_
  · rw [Stp.dat, bdats_list, of_list, insB_dats]
    refine .tup (st_of upd_same) (.cons (.str _) (.cons (.tup (st_of (Evl.Ex.new ht2 _ _ upd_same)) ?_) .nil))
    have hF := Bdy.mvt kt7 failB (Bdy.mvt kt6 failB hF0)
    exact dp_app _ _ (dp_app _ _ (dp_take _ _ _ (dp_rep hF _)) (.cons (Bdy.mvt (l7.kt hb) c hv) .nil)) (dp_drop _ _ _ (dp_rep hF _))
  · rw [Stp.ok]
    refine ⟨by rw [of_count, insB_len]; omega, of_ok _ fun d hd => ?_⟩
    rcases insB_mem hd with rfl | rfl
    · exact ok
    · exact failB_ok
  · rw [Stp.dep]
    have := of_dep c.dep (insB (1 + n).toNat j.toNat c) fun d hd => by
      rcases insB_mem hd with rfl | rfl
      · omega
      · rw [failB_dep]; omega
    have := bdep_list (Bds.of (insB (1 + n).toNat j.toNat c)) c (by rw [of_list]; unfold insB; simp)
    omega
  · rw [Stp.toks, altT_list, of_list, altT_len, insB_len, insB_sum]
    omega
theorem pure__law_tower (vs : List V) (H : Hp) (Q : VK) (E : XK) (h : (sp_tower K) vs H Q E) : t__law_tower K { nx := fun _ H' => Q .non H', rt := Q } (start ["_law_bag_here", "_law_names", "_law_body_here", "_law_many", "_law_turn", "_law_kind", "_law_pair", "_law_step_here", "_law_blocks"] vs) H := by
  obtain ⟨b, l, ns, v, bd, m, rfl, hb, hlb, hl, hn0, hn1, hns, hv, hok, m0, m1, k⟩ := h
  refine ⟨_, rfl, m, rfl, by omega, by omega, ?_⟩
  refine for_range (lo := 0) (n := m.toNat) (fun i σ G => ∃ (u : V) (v4 v5 v6 v7 v8 : Option V) (c : Bdy), σ = [some (.ref b), some (.ref l), some u, some (.int m), v4, v5, v6, v7, v8] ∧ Le b H G ∧ Dp K G u (.tuple c.dats) ∧ c.ok ∧ c.dep = bd.dep + i ∧ c.toks.length ≤ bd.toks.length + 40 * i)
    ⟨v, none, none, none, none, none, bd, rfl, Le.refl, hv, hok, by omega, by omega⟩ ?_ ?_
  · rintro i σ G hi ⟨u, v4, v5, v6, v7, v8, c, rfl, lg, hu, ok, hd, ht⟩
    have hbG := lg.bag hb
    refine ⟨_, rfl, b, 5, rfl, hbG, by decide, by decide, fun G1 kd l1 k0 k1 => ⟨_, rfl, by show 0 ≤ sizeLine; decide, fun e he => ⟨by show 2 ≤ sizeLine; decide, fun q hq => ⟨_, _, rfl, ?_⟩⟩⟩⟩
    have x2 : Evl.Ex G1 (upd (upd G1 e (.tup [])) q (.lst [u, .ref e])) := (Evl.Ex.new he).trans (Evl.Ex.new hq)
    have l2 : Le b G (upd (upd G1 e (.tup [])) q (.lst [u, .ref e])) := l1.trans (Le.of x2)
    have hE : ∀ G' (a : Addr), G' a = some (.tup []) → Dp K G' (.ref a) (.tuple (Bdy.dats .nil)) := fun G' a h => by rw [Bdy.dats]; exact .tup (st_of h) .nil
    have nilok : Bdy.ok .nil := by rw [Bdy.ok]; trivial
    have nildep : Bdy.dep .nil = 0 := by rw [Bdy.dep]
    have niltok : (Bdy.toks .nil).length = 0 := by rw [Bdy.toks]; rfl
    have hq0 : (upd G1 e (.tup [])) q = none := hq
    have hqb : q ≠ b := bag_ne ((l1.trans (Le.of (Evl.Ex.new (o := .tup []) he))).bag hbG) hq0
    -- behind the pair
    have rest : ∀ (G3 : Hp) (q : Addr) (x0 x1 : V) (c0 c1 : Bdy), Le b G G3 → G3 q = some (.lst [x0, x1]) → q ≠ b → Dp K G3 x0 (.tuple c0.dats) → Dp K G3 x1 (.tuple c1.dats) → c0.ok → c1.ok → max c0.dep c1.dep = c.dep → c0.toks.length + c1.toks.length ≤ c.toks.length →
        ∀ D : Ends, (∀ σ' G', (∃ (u : V) (v4 v5 v6 v7 v8 : Option V) (c : Bdy), σ' = [some (.ref b), some (.ref l), some u, some (.int m), v4, v5, v6, v7, v8] ∧ Le b H G' ∧ Dp K G' u (.tuple c.dats) ∧ c.ok ∧ c.dep = bd.dep + (i + 1) ∧ c.toks.length ≤ bd.toks.length + 40 * (i + 1)) → D.nx σ' G') →
        tSeq (t_chain K) (tAsg (tOp (rCatA K) (tTup (tCons (tVar 7) tNil)) (tOp (rRepTup K) (tTup (tCons (tTup (tCons (tC (.str "super")) tNil)) tNil)) (tCall sp_draw [] E0 (tCons (tVar 0) (tCons (tC (.int 2)) tNil))))) (gName 2)) D [some (.ref b), some (.ref l), some u, some (.int m), some (.int (0 + (i : Int))), some (.int kd), some (.ref q), v7, v8] G3 := by
      intro G3 q x0 x1 c0 c1 l3 hq hqb h0 h1 ok0 ok1 d01 t01 D kD
      have hb3 := l3.bag hbG
      refine tower_step (D := { D with nx := tAsg _ _ D }) hb3 hlb (l3.keep _ _ hlb (lg.keep _ _ hlb hl)) hn0 hn1 hns (Bdy.mvt (l3.kt hbG) c hu) ok hq hqb h0 h1 ok0 ok1 d01 t01 k0 k1 fun s G4 t v8' l4 hs oks ds ts => ?_
      have l4' : Le b G G4 := l3.trans l4
      have hb4 := l4'.bag hbG
      refine ⟨_, rfl, by show 1 ≤ sizeLine; decide, fun a1 ha1 => ⟨by show 1 ≤ sizeLine; decide, fun a2 ha2 => ⟨by show 1 ≤ sizeLine; decide, fun a3 ha3 => ?_⟩⟩⟩
      have x5 : Evl.Ex G4 (upd (upd (upd G4 a1 (.tup [.ref t])) a2 (.tup [.str "super"])) a3 (.tup [.ref a2])) := ((Evl.Ex.new ha1).trans (Evl.Ex.new ha2)).trans (Evl.Ex.new ha3)
      have e1 : (upd (upd (upd G4 a1 (.tup [.ref t])) a2 (.tup [.str "super"])) a3 (.tup [.ref a2])) a1 = some (.tup [.ref t]) := Evl.Ex.new ha3 _ _ (Evl.Ex.new ha2 _ _ upd_same)
      have e2 : (upd (upd (upd G4 a1 (.tup [.ref t])) a2 (.tup [.str "super"])) a3 (.tup [.ref a2])) a2 = some (.tup [.str "super"]) := Evl.Ex.new ha3 _ _ upd_same
      have e3 : (upd (upd (upd G4 a1 (.tup [.ref t])) a2 (.tup [.str "super"])) a3 (.tup [.ref a2])) a3 = some (.tup [.ref a2]) := upd_same
      have hb5 := (Le.of x5).bag hb4
      refine ⟨_, rfl, b, 2, rfl, hb5, by decide, by decide, fun G6 n l6 n0 n1 => ?_⟩
      have kt6 : KT K (upd (upd (upd G4 a1 (.tup [.ref t])) a2 (.tup [.str "super"])) a3 (.tup [.ref a2])) G6 := l6.kt hb5
      have l6' : Le b G G6 := (l4'.trans (Le.of x5)).trans l6
      have hs6 : Dp K G6 (.ref t) s.dat := Stp.mv kt6 s _ (Stp.mv (KT.of x5) s _ hs)
      have s1 := kt6 _ _ (st_of e1)
      have s3 := kt6 _ _ (st_of e3)
      have sup : Dp K G6 (.ref a2) (Stp.dat (.bare "super")) := by rw [Stp.dat]; exact .tup (kt6 _ _ (st_of e2)) (.cons (.str _) .nil)
      have supok : Stp.ok (.bare "super") := by rw [Stp.ok]; decide
      have one : ∀ G' (a : Addr), Le b G G' → KT K G6 G' → SqT K G' a [.ref t] → D.nx [some (.ref b), some (.ref l), some (.ref a), some (.int m), some (.int (0 + (i : Int))), some (.int kd), some (.ref q), some (.ref t), v8'] G' := fun G' a lG kt hs1 =>
        kD _ _ ⟨_, _, _, _, _, _, Bdy.of [s], rfl, lg.trans lG, by rw [dats_list, bof_steps]; exact .tup hs1 (.cons (Stp.mv kt s _ hs6) .nil), bof_ok _ (fun d hd => by rw [List.mem_singleton.mp hd]; exact oks), by have := bof_dep (c.dep + 1) [s] (fun d hd => by rw [List.mem_singleton.mp hd]; omega); have := dep_list (Bdy.of [s]) s (by rw [bof_steps]; simp); omega, by rw [toks_list, bof_steps, List.map_singleton, List.flatten_singleton]; omega⟩
      have two : ∀ G' (a : Addr), Le b G G' → KT K G6 G' → SqT K G' a [.ref t, .ref a2] → D.nx [some (.ref b), some (.ref l), some (.ref a), some (.int m), some (.int (0 + (i : Int))), some (.int kd), some (.ref q), some (.ref t), v8'] G' := fun G' a lG kt hs1 =>
        kD _ _ ⟨_, _, _, _, _, _, Bdy.of [s, .bare "super"], rfl, lg.trans lG, by rw [dats_list, bof_steps]; exact .tup hs1 (.cons (Stp.mv kt s _ hs6) (.cons (Stp.mv kt _ _ sup) .nil)), bof_ok _ (fun d hd => by
            rcases List.mem_cons.mp hd with rfl | hd
            · exact oks
            · rw [List.mem_singleton.mp hd]; exact supok), by
            have := bof_dep (c.dep + 1) [s, .bare "super"] (fun d hd => by
              rcases List.mem_cons.mp hd with rfl | hd
              · omega
              · rw [List.mem_singleton.mp hd, Stp.dep]; omega)
            have := dep_list (Bdy.of [s, .bare "super"]) s (by rw [bof_steps]; simp)
            omega, by
            rw [toks_list, bof_steps, List.map_cons, List.map_singleton, List.flatten_cons, List.flatten_singleton, List.length_append, Stp.toks]
            show s.toks.length + 2 ≤ _
            omega⟩
      refine ⟨a3, n, [.ref a2], rfl, rfl, s3, (fun e => nomatch e), n0, by omega, by show 1 ≤ 1000; decide, fun hn => ?_, fun hn p hp => ?_⟩
      · refine ⟨a1, a3, [.ref t], [.ref a2], rfl, rfl, s1, s3, by show 2 ≤ sizeLine; decide, (fun e => nomatch e), (fun _ e => nomatch e), fun _ _ p hp => ?_⟩
        have xp := Evl.Ex.new (o := .tup ([.ref t] ++ [.ref a2])) hp
        exact two _ p (l6'.trans (Le.of xp)) (KT.of xp) (st_of upd_same)
      · have hn0 : n = 0 := by omega
        subst hn0
        have xp := Evl.Ex.new (o := .tup (List.replicate (0 : Int).toNat [V.ref a2]).flatten) hp
        refine ⟨a1, p, [.ref t], [], rfl, rfl, ex_t xp s1, st_of upd_same, by show 1 ≤ sizeLine; decide, (fun e => nomatch e), fun _ _ => one _ a1 (l6'.trans (Le.of xp)) (KT.of xp) (ex_t xp s1), fun _ e => absurd rfl e⟩
    refine ⟨_, rfl, b, 2, rfl, l2.bag hbG, by decide, by decide, fun G3 d l3 d0 d1 => ⟨rfl, _, rfl, ?_⟩⟩
    rw [int_dec]
    have l23 : Le b G G3 := l2.trans l3
    have hb2 := l2.bag hbG
    by_cases hd0 : d = 0
    · rw [decide_eq_true hd0]
      refine ⟨by show 0 ≤ sizeLine; decide, fun e2 he2 => ⟨_, rfl, by show 2 ≤ sizeLine; decide, fun q2 hq2 => ?_⟩⟩
      have x4 : Evl.Ex G3 (upd (upd G3 e2 (.tup [])) q2 (.lst [.ref e2, u])) := (Evl.Ex.new he2).trans (Evl.Ex.new hq2)
      have l4 : Le b G (upd (upd G3 e2 (.tup [])) q2 (.lst [.ref e2, u])) := l23.trans (Le.of x4)
      exact rest _ q2 (.ref e2) u .nil c l4 upd_same (bag_ne ((l23.trans (Le.of (Evl.Ex.new (o := .tup []) he2))).bag hbG) hq2) (hE _ _ (Evl.Ex.new hq2 _ _ upd_same)) (Bdy.mvt (l4.kt hbG) c hu) nilok ok (by rw [nildep]; omega) (by rw [niltok]; omega) _ fun σ' G' z => z
    · rw [decide_eq_false hd0]
      have he3 : G3 e = some (.tup []) := l3.keep _ _ (bag_ne (l1.bag hbG) he) (Evl.Ex.new hq _ _ upd_same)
      exact rest _ q u (.ref e) c .nil l23 (l3.keep _ _ hqb upd_same) hqb (Bdy.mvt (l23.kt hbG) c hu) (hE _ _ he3) ok nilok (by rw [nildep]; omega) (by rw [niltok]; omega) _ fun σ' G' z => z
  · rintro σ G ⟨u, v4, v5, v6, v7, v8, c, rfl, lg, hu, ok, hd, ht⟩
    exact ⟨_, rfl, k u G c lg hu ok (by omega) (by omega)⟩
end
end Ef

namespace Ef
open PySem PySem.Spec PyProof.Rows L2 Evl
/-! tokens of texts put together -/
/-- what stands apart: the last of l1 is no letter, or the first of l2 is none -/
def Apart (l1 l2 : List Nat) : Prop := (∀ a, l1.getLast? = some a → isLet a = false) ∨ ∀ a, l2.head? = some a → isLet a = false
theorem while_none {l : List Nat} (h : ∀ a, l.head? = some a → isLet a = false) : l.takeWhile isLet = [] ∧ l.dropWhile isLet = l := by
  cases l with
  | nil => exact ⟨rfl, rfl⟩
  | cons a r =>
    have e := h a rfl
    rw [List.takeWhile_cons, List.dropWhile_cons, e]
    exact ⟨rfl, rfl⟩
theorem dw_nil : ∀ r : List Nat, r.dropWhile isLet = [] ↔ ∀ a ∈ r, isLet a = true
  | [] => by simp
  | c :: r => by
    have ih := dw_nil r
    rw [List.dropWhile_cons]
    by_cases h : isLet c = true
    · rw [if_pos h, ih]
      exact ⟨fun q a ha => by
        rcases List.mem_cons.mp ha with rfl | ha
        · exact h
        · exact q a ha, fun q a ha => q a (List.mem_cons_of_mem _ ha)⟩
    · rw [if_neg h]
      exact ⟨(fun q => by cases q), fun q => absurd (q c List.mem_cons_self) h⟩
theorem tok_app : ∀ (m : Nat) (l1 l2 : List Nat) (pos : Nat), l1.length ≤ m → Apart l1 l2 → tokenize pos (l1 ++ l2) = tokenize pos l1 ++ tokenize (pos + l1.length) l2
  | m, [], l2, pos, _, _ => by
    have e : tokenize pos [] = [] := by rw [tokenize]
    rw [e]; rfl
  | 0, c :: r, l2, pos, h, _ => by simp at h
  | m + 1, c :: r, l2, pos, h, ha => by
    have hr : r.length ≤ m := by simp at h; omega
    have ap : r ≠ [] → Apart r l2 := fun hn => by
      rcases ha with ha | ha
      · refine .inl fun a e => ha a ?_
        rw [List.getLast?_cons]
        rw [e]; rfl
      · exact .inr ha
    have ap2 : Apart r l2 := by
      by_cases hn : r = []
      · subst hn; exact .inl fun a e => by cases e
      · exact ap hn
    rw [List.cons_append]
    conv => lhs; rw [tokenize]
    conv => rhs; rw [tokenize]
    by_cases hc : isLet c = true
    · rw [if_pos hc, if_pos hc]
      by_cases hd : r.dropWhile isLet = []
      · have hall : ∀ a ∈ r, isLet a = true := (dw_nil r).mp hd
        have hl2 : ∀ a, l2.head? = some a → isLet a = false := by
          rcases ha with ha | ha
          · exfalso
            cases q : (c :: r).getLast? with
            | none => simp at q
            | some a =>
              have h1 := ha a q
              have h2 : a ∈ c :: r := List.mem_of_getLast? q
              rcases List.mem_cons.mp h2 with rfl | h2
              · rw [hc] at h1; cases h1
              · rw [hall a h2] at h1; cases h1
          · exact ha
        obtain ⟨t1, t2⟩ := while_none hl2
        have ht : r.takeWhile isLet = r := by
          have := List.takeWhile_append_dropWhile (p := isLet) (l := r)
          rw [hd, List.append_nil] at this
          exact this
        rw [List.takeWhile_append_of_pos hall, List.dropWhile_append_of_pos hall, t1, t2, hd, ht, List.append_nil]
        have e : ∀ n, tokenize n [] = [] := fun n => by rw [tokenize]
        rw [e, List.length_cons, List.cons_append, List.nil_append]
        congr 2
        omega
      · have dl : (r.dropWhile isLet).length ≤ m := by
          have := (List.dropWhile_sublist (l := r) isLet).length_le
          omega
        have e0 := List.takeWhile_append_dropWhile (p := isLet) (l := r)
        have e1 : (r ++ l2).takeWhile isLet = r.takeWhile isLet := by
          rw [List.takeWhile_append]
          split
          · rename_i hh
            have : (r.takeWhile isLet).length + (r.dropWhile isLet).length = r.length := by
              conv => rhs; rw [← e0]
              rw [List.length_append]
            have : (r.dropWhile isLet).length = 0 := by omega
            exact absurd (List.eq_nil_of_length_eq_zero this) hd
          · rfl
        have e2 : (r ++ l2).dropWhile isLet = r.dropWhile isLet ++ l2 := by
          rw [List.dropWhile_append]
          split
          · rename_i hh
            exact absurd (by simpa using hh) hd
          · rfl
        have ap3 : Apart (r.dropWhile isLet) l2 := by
          rcases ap2 with q | q
          · refine .inl fun a e => q a ?_
            rw [← e0, List.getLast?_append, e]; rfl
          · exact .inr q
        have ih := tok_app m (r.dropWhile isLet) l2 (pos + 1 + (r.takeWhile isLet).length) dl ap3
        rw [e1, e2, ih, List.cons_append]
        have hlen : (r.takeWhile isLet).length + (r.dropWhile isLet).length = r.length := by
          conv => rhs; rw [← e0]
          rw [List.length_append]
        have e3 : pos + 1 + (r.takeWhile isLet).length + (r.dropWhile isLet).length = pos + (c :: r).length := by rw [List.length_cons]; omega
        rw [e3]
    · rw [if_neg hc, if_neg hc]
      have ih := tok_app m r l2 (pos + 1) hr ap2
      have e3 : pos + 1 + r.length = pos + (c :: r).length := by rw [List.length_cons]; omega
      rw [ih, e3]
      split <;> rfl
theorem tok_blank : ∀ (l : List Nat) (pos : Nat), (∀ c ∈ l, isBlank c = true) → tokenize pos l = []
  | [], pos, _ => by rw [tokenize]
  | c :: r, pos, h => by
    have hb := h c List.mem_cons_self
    have hl : ¬ isLet c = true := fun e => by rw [let_noblank e] at hb; cases hb
    rw [tokenize, if_neg hl, if_pos hb]
    exact tok_blank r _ fun d hd => h d (List.mem_cons_of_mem _ hd)
theorem tok_one {w : Str} (h : gTok w) (pos : Nat) : tokenize pos w.cps.toList = [(pos, w.cps.toList)] := by
  rcases h.2 with ⟨h1, h2⟩ | ⟨c, e, _, h2, h3⟩
  · cases q : w.cps.toList with
    | nil => exact absurd q h1
    | cons c r =>
      rw [q] at h2
      have hr : ∀ a ∈ r, isLet a = true := fun a ha => h2 a (List.mem_cons_of_mem _ ha)
      have d := (dw_nil r).mpr hr
      have t : r.takeWhile isLet = r := by
        have := List.takeWhile_append_dropWhile (p := isLet) (l := r)
        rw [d, List.append_nil] at this
        exact this
      rw [tokenize, if_pos (h2 c List.mem_cons_self), d, t, tokenize]
  · rw [e, tokenize, if_neg (by rw [h2]; decide), if_neg (by rw [h3]; decide), tokenize]
/-- tokens of a text, by its signs, from a place on -/
def tokA (pos : Nat) (l : List Nat) : List (Int × Str) := (tokenize pos l).map fun t => ((t.1 : Int), ⟨t.2.toArray⟩)
theorem tokens_A (z : Str) : tokens z = tokA 0 z.cps.toList := rfl
theorem tokA_app {l1 l2 : List Nat} {pos : Nat} (h : Apart l1 l2) : tokA pos (l1 ++ l2) = tokA pos l1 ++ tokA (pos + l1.length) l2 := by
  unfold tokA
  rw [tok_app l1.length l1 l2 pos (Nat.le_refl _) h, List.map_append]
theorem tokA_blank {l : List Nat} {pos : Nat} (h : ∀ c ∈ l, isBlank c = true) : tokA pos l = [] := by
  unfold tokA; rw [tok_blank l pos h]; rfl
theorem tokA_one {w : Str} (h : gTok w) (pos : Nat) : tokA pos w.cps.toList = [((pos : Int), w)] := by
  unfold tokA; rw [tok_one h]; rfl
theorem apart_blank {l1 l2 : List Nat} (h : ∀ c ∈ l2, isBlank c = true) : Apart l1 l2 := .inr fun a e => by
  have hm : a ∈ l2 := List.mem_of_head? e
  cases q : isLet a with
  | false => rfl
  | true => have := h a hm; rw [let_noblank q] at this; cases this
end Ef

namespace Ef
open PySem PySem.Spec PyProof.Rows L2 Evl
theorem letters_alpha : ∀ c ∈ letters.cps.toList, Unicode.isAlpha c = true := by decide +kernel
theorem let_alpha {c : Nat} (h : isLet c = true) : Unicode.isAlpha c = true := letters_alpha c (of_decide_eq_true h)
theorem alpha_of {w : Str} (h1 : w.cps.toList ≠ []) (h2 : ∀ c ∈ w.cps.toList, isLet c = true) : Txt.isalpha w = true := by
  unfold Txt.isalpha
  rw [Bool.and_eq_true]
  refine ⟨decide_eq_true ?_, ?_⟩
  · have := List.length_pos_iff.mpr h1
    rw [str_len]; exact this
  · rw [Array.all_eq_true_iff_forall_mem]
    exact fun c hc => let_alpha (h2 c (by simpa using hc))
theorem cut_last {z : Str} {l : List Nat} {a : Nat} (h : z.cps.toList = l ++ [a]) : cutS z (some (-1)) none = ⟨#[a]⟩ := by
  have hl : z.length = l.length + 1 := by rw [str_len, h, List.length_append]; rfl
  unfold cutS
  have e1 : HT.sIx z.length 0 (some (-1)) = l.length := by
    show (if (-1 : Int) < 0 then ((-1 : Int) + (z.length : Int)).toNat else min (-1 : Int).toNat z.length) = l.length
    rw [if_pos (by decide)]; omega
  rw [e1, HT.sIx_none, h, List.drop_left, hl, Nat.add_sub_cancel_left]
  rfl
theorem apart_or {z t : Str} (ht : gTok t) : Apart z.cps.toList t.cps.toList ∨ (Txt.isalpha (cutS z (some (-1)) none) = true ∧ Txt.isalpha t = true) := by
  cases q : z.cps.toList.getLast? with
  | none => exact .inl (.inl fun a e => by rw [q] at e; cases e)
  | some a =>
    cases hq : isLet a with
    | false => exact .inl (.inl fun c e => by rw [q] at e; cases e; exact hq)
    | true =>
      rcases ht.2 with ⟨h1, h2⟩ | ⟨c, e, _, h2, h3⟩
      · right
        obtain ⟨l, e⟩ := List.getLast?_eq_some_iff.mp q
        refine ⟨?_, alpha_of h1 h2⟩
        rw [cut_last e]
        exact alpha_of (by show [a] ≠ []; simp) fun c hc => by
          have : c ∈ [a] := hc
          rw [List.mem_singleton.mp this]; exact hq
      · exact .inl (.inr fun d hd => by rw [e] at hd; cases hd; exact h2)
section
variable {K : PySem.W.Frag} {σ : L2.St} {H H1 H2 G : Hp} {ta tb te tl : TE} {v : V} {b r p : Addr}
theorem ev_alpha {z : Str} (h : Ev te σ H (.str z)) : Ev (tM0 rIsAlpha te) σ H (.bl (Txt.isalpha z)) := fun H1 e Q q => h H1 e _ fun H2 e2 => ⟨⟨z, rfl⟩, z, rfl, rfl, trivial, q H2 e2⟩
theorem len__law_spread {vs : List V} {Q : VK} {E : XK} (h : (sp_spread K) vs H Q E) : vs.length = 2 := by
  obtain ⟨_, _, _, rfl, _⟩ := h; rfl
def gaps1 : List Str := ["", " ", "\n"]
def gaps2 : List Str := ["", " ", "\n", "  ", " \n "]
theorem gaps1_ok : ∀ g ∈ gaps1, g.length ≤ 1 ∧ ∀ c ∈ g.cps.toList, isBlank c = true := by decide +kernel
theorem gaps2_ok : ∀ g ∈ gaps2, g.length ≤ 3 ∧ ∀ c ∈ g.cps.toList, isBlank c = true := by decide +kernel
theorem tok_grow {z t g : Str} {ps : List Int} {ts : List Str} (h : tokens z = ps.zip ts) (hl : ps.length = ts.length) (ha : Apart z.cps.toList t.cps.toList) (ht : gTok t) (hg : ∀ c ∈ g.cps.toList, isBlank c = true) : tokens (z ++ t ++ g) = (ps ++ [(z.length : Int)]).zip (ts ++ [t]) := by
  rw [tokens_A, cat_list, tokA_app (apart_blank hg), tokA_blank hg, List.append_nil, cat_list, tokA_app ha, tokA_one ht, ← tokens_A, h, List.zip_append hl, Nat.zero_add, ← str_len]
  rfl
theorem pure__law_spread (vs : List V) (H : Hp) (Q : VK) (E : XK) (h : (sp_spread K) vs H Q E) : t__law_spread K { nx := fun _ H' => Q .non H', rt := Q } (start ["_law_bag_here", "_law_tokens", "_law_text", "_law_places", "_law_at", "_law_token"] vs) H := by
  obtain ⟨b, l, ts, rfl, hb, hlb, hl, hts, hgt, k⟩ := h
  refine ⟨_, rfl, by show 3 ≤ sizeLine; decide, fun l0 hl0 => ⟨b, l0, gaps1.map V.str, rfl, (Le.of (Evl.Ex.new hl0)).bag hb, bag_ne hb hl0, sq_of upd_same, (fun e => nomatch e), by decide, fun G1 x l1 hx => ⟨by decide, fun p hp1 => ⟨_, _, rfl, ?_⟩⟩⟩⟩
  obtain ⟨z0, hz0, rfl⟩ := List.mem_map.mp hx
  obtain ⟨g1, g2⟩ := gaps1_ok z0 hz0
  have le1 : Le b H G1 := (Le.of (Evl.Ex.new hl0)).trans l1
  have hp : H p = none := le1.back hb hp1
  have hpb := bag_ne hb hp
  have hpl : p ≠ l := fun e => by subst e; rw [hl] at hp; cases hp
  have le2 : Le b H (upd G1 p (.lst [])) := le1.trans (Le.of (Evl.Ex.new hp1))
  refine ⟨_, rfl, l, _, rfl, sq_of (le2.keep _ _ hlb hl), ?_⟩
  refine for_it (walk_enum (xs := ts.map V.str)) (fun i σ G => ∃ (z : Str) (ps : List Int) (v4 v5 : Option V), σ = [some (.ref b), some (.ref l), some (.str z), some (.ref p), v4, v5] ∧ Le b H G ∧ G p = some (.lst (ps.map V.int)) ∧ ps.length = i ∧ tokens z = ps.zip (ts.take i) ∧ z.length ≤ 13 * i + 1 ∧ ∀ t, ts[i]? = some t → Apart z.cps.toList t.cps.toList)
    ⟨z0, [], none, none, rfl, le2, upd_same, rfl, by rw [tokens_A, tokA_blank g2]; rfl, by omega, fun t _ => .inl fun a e => ?_⟩ ?_ ?_ ?_
  · have hm : a ∈ z0.cps.toList := List.mem_of_getLast? e
    cases q : isLet a with
    | false => rfl
    | true => have := g2 a hm; rw [let_noblank q] at this; cases this
  · rintro i σ G hi ⟨z, ps, v4, v5, rfl, lg, _⟩
    exact sq_of (lg.keep _ _ hlb hl)
  · rintro i w σ G G' hi ⟨z, ps, v4, v5, rfl, lg, hg, hpl2, htk, hzl, hap⟩ ⟨T, y1, y2, rfl, nT, rfl, e4, e5⟩
    rw [List.length_map] at hi
    have e6 : y1 = .int (i : Nat) := (Option.some.inj e4).symm
    subst e6
    have et : ts[i]? = some ts[i] := List.getElem?_eq_getElem hi
    have e7 : y2 = .str ts[i] := by
      have e5 : (List.map V.str ts)[i]? = some y2 := e5
      rw [List.getElem?_map, et] at e5
      exact (Option.some.inj e5).symm
    subst e7
    have hgt' := hgt _ (List.mem_of_getElem? et)
    have xT : Evl.Ex G (upd G T (.tup [.int (i : Nat), .str ts[i]])) := Evl.Ex.new nT
    refine ⟨T, _, rfl, st_of upd_same, rfl, _, _, rfl, _, _, rfl, rfl, ?_⟩
    refine q_app (xT _ _ hg) (ev_var rfl) (ev_lenStr (ev_var rfl) (by omega)) (by rw [List.length_map]; omega) fun G2 x2 => ?_
    have le3 : Le b H (upd G2 p (.lst (ps.map V.int ++ [.int z.length]))) := le_mut (lg.trans (Le.of (xT.trans x2))) hb hp
    have hb3 := le3.bag hb
    have ht8 := hgt'.1
    refine ⟨_, rfl, _, rfl, _, _, rfl, rfl, sz_of (by omega), _, rfl, by show 5 ≤ sizeLine; decide, fun l2 hl2 => ⟨b, l2, gaps2.map V.str, rfl, (Le.of (Evl.Ex.new hl2)).bag hb3, bag_ne hb3 hl2, sq_of upd_same, (fun e => nomatch e), by decide, fun G4 x l4 hx => ?_⟩⟩
    obtain ⟨g, hgg, rfl⟩ := List.mem_map.mp hx
    obtain ⟨w1, w2⟩ := gaps2_ok g hgg
    refine ⟨_, _, rfl, rfl, sz_of (by rw [len_app]; omega), ?_⟩
    have le4 : Le b H G4 := le3.trans ((Le.of (Evl.Ex.new hl2)).trans l4)
    have hp4 : G4 p = some (.lst ((ps ++ [(z.length : Int)]).map V.int)) := by
      rw [List.map_append]
      exact l4.keep _ _ hpb (Evl.Ex.new hl2 _ _ upd_same)
    have htk' := tok_grow htk (by rw [hpl2, List.length_take]; omega) (hap _ et) hgt' w2
    rw [← take_succ et] at htk'
    have hlen' : (z ++ ts[i] ++ g).length ≤ 13 * i + 1 + 12 := by rw [len_app, len_app]; omega
    have hl4 := le4.keep _ _ hlb hl
    have done : ∀ (z' : Str) (G5 : Hp), Evl.Ex G4 G5 → tokens z' = (ps ++ [(z.length : Int)]).zip (ts.take (i + 1)) → z'.length ≤ 13 * (i + 1) + 1 → (∀ t, ts[i + 1]? = some t → Apart z'.cps.toList t.cps.toList) →
        ∃ (z : Str) (ps : List Int) (v4 v5 : Option V), [some (.ref b), some (.ref l), some (.str z'), some (.ref p), some (.int (i : Nat)), some (.str ts[i])] = [some (.ref b), some (.ref l), some (.str z), some (.ref p), v4, v5] ∧ Le b H G5 ∧ G5 p = some (.lst (ps.map V.int)) ∧ ps.length = i + 1 ∧ tokens z = ps.zip (ts.take (i + 1)) ∧ z.length ≤ 13 * (i + 1) + 1 ∧ ∀ t, ts[i + 1]? = some t → Apart z.cps.toList t.cps.toList :=
      fun z' G5 x5 h1 h2 h3 => ⟨z', ps ++ [(z.length : Int)], _, _, rfl, le4.trans (Le.of x5), x5 _ _ hp4, by rw [List.length_append, hpl2]; rfl, h1, h2, h3⟩
    by_cases hlt : i + 1 < ts.length
    · have en : ts[i + 1]? = some ts[i + 1] := List.getElem?_eq_getElem hlt
      have hgn := hgt _ (List.mem_of_getElem? en)
      refine s_when (b := Txt.isalpha (cutS (z ++ ts[i] ++ g) (some (-1)) none) && Txt.isalpha ts[i + 1]) (et_is (et_and (b := Txt.isalpha (cutS (z ++ ts[i] ++ g) (some (-1)) none) && Txt.isalpha ts[i + 1]) (et_test (ev_op (ev_add (ev_var rfl) ev_c) (ev_lenSq (ev_var rfl) (.inl (sq_of hl4))) rv_I0)) fun _ => et_and (et_B (ev_alpha (ev_slS (ev_var rfl) (eo_some (ev_un ev_c ru_neg)) eo_none (by omega)))) fun _ => et_B (ev_alpha (ev_ix (ev_var rfl) (ev_add (ev_var rfl) ev_c) (sq_of hl4) ?_))) ?_) (fun e G5 x5 => ?_) (fun e G5 x5 => ?_)
      · have : atI (ts.map V.str) (((i + 1 : Nat)) : Int) = some (.str ts[i + 1]) := atI_nat (by rw [List.getElem?_map, en]; rfl)
        exact this
      · rw [List.length_map, decide_eq_true (show ((i : Nat) : Int) + 1 < (ts.length : Int) by omega), Bool.true_and]
      · refine s_asg (ev_addSt (ev_var rfl) ev_c (by show _ + 1 ≤ _; omega)) fun G6 x6 => done _ G6 (x5.trans x6) ?_ ?_ fun t _ => ?_
        · have hb1 : ∀ c ∈ (" " : Str).cps.toList, isBlank c = true := by decide +kernel
          rw [tokens_A, cat_list, tokA_app (apart_blank hb1), tokA_blank hb1, List.append_nil, ← tokens_A]
          exact htk'
        · rw [len_app]; show _ + 1 ≤ _; omega
        · refine .inl fun a e => ?_
          rw [cat_list, show (" " : Str).cps.toList = [32] by decide +kernel, List.getLast?_append] at e
          have : (32 : Nat) = a := by simpa using e
          subst this
          decide +kernel
      · refine done _ G5 x5 htk' (by omega) fun t et2 => ?_
        rw [en] at et2
        cases et2
        rcases apart_or (z := z ++ ts[i] ++ g) hgn with h | ⟨h1, h2⟩
        · exact h
        · rw [h1, h2] at e; cases e
    · refine s_when (b := false) (et_is (et_and (b := false) (et_test (ev_op (ev_add (ev_var rfl) ev_c) (ev_lenSq (ev_var rfl) (.inl (sq_of hl4))) rv_I0)) fun e => ?_) (Bool.and_false _)) (fun e => by cases e) (fun e G5 x5 => ?_)
      · have := of_decide_eq_true e
        rw [List.length_map] at this
        omega
      · refine done _ G5 x5 htk' (by omega) fun t et2 => ?_
        rw [List.getElem?_eq_none (by omega)] at et2
        cases et2
  · rintro σ G ⟨z, ps, v4, v5, rfl, lg, hg, hpl2, htk, hzl, hap⟩
    rw [List.length_map] at hpl2 htk hzl
    rw [List.take_length] at htk
    exact s_retU (eu_tup (ea_cons (ev_var rfl) (ea_cons (ev_var rfl) ea_nil)) (by show 2 ≤ 100000; decide)) fun t G2 _ x2 ht => k G2 t p z ps (lg.trans (Le.of x2)) ht (x2 _ _ hg) hpl2 htk hzl
end
end Ef

namespace Ef
open PySem PySem.Spec PyProof.Rows L2 Evl
/-! reading what was written: the tokens of a body give the body -/
def At (T : List (Int × Str)) (n : Nat) (l : List Str) : Prop := ∀ (i : Nat) (w : Str), l[i]? = some w → tkAt T (n + i) = w
theorem At.head {T : List (Int × Str)} {n : Nat} {w : Str} {l : List Str} (h : At T n (w :: l)) : tkAt T n = w := h 0 w rfl
theorem At.tail {T : List (Int × Str)} {n : Nat} {w : Str} {l : List Str} (h : At T n (w :: l)) : At T (n + 1) l := fun i u e => by
  have := h (i + 1) u e
  rw [show n + 1 + i = n + (i + 1) by omega]; exact this
theorem At.left {T : List (Int × Str)} {n : Nat} {l r : List Str} (h : At T n (l ++ r)) : At T n l := fun i u e => h i u (by rw [List.getElem?_append_left (List.getElem?_eq_some_iff.mp e).1]; exact e)
theorem At.right {T : List (Int × Str)} {n : Nat} {l r : List Str} (h : At T n (l ++ r)) : At T (n + l.length) r := fun i u e => by
  have := h (l.length + i) u (by rw [List.getElem?_append_right (by omega), show l.length + i - l.length = i by omega]; exact e)
  rw [show n + l.length + i = n + (l.length + i) by omega]; exact this
section
variable {T : List (Int × Str)} {len : Int}
theorem rd_blk {b : Bdy} {d n n2 : Nat} (hb : ∀ m m2, At T m b.toks → m2 = m + b.toks.length → tkAt T m2 ∉ startSteps → tkAt T m2 ≠ "or" → ∃ k, RBody T len (d + 1) m k (.good b m2)) (hd : d < 6) (ha : At T n (curl b.toks)) (hn : n2 = n + (b.toks.length + 2)) : RBlk T len d n (.good b n2) := by
  unfold curl at ha
  have h1 := ha.head
  have h2 := ha.tail.right.head
  obtain ⟨k, hk⟩ := hb (n + 1) (n + 1 + b.toks.length) ha.tail.left rfl (by rw [h2]; decide) (by rw [h2]; decide)
  have e : n2 = n + 1 + b.toks.length + 1 := by omega
  rw [e]
  exact .ok (by omega) h1 hk h2
theorem start_word : ∀ w ∈ wordSteps, w ∈ startSteps := by decide
theorem start_class : ∀ w ∈ classSteps, w ∈ startSteps := by decide
theorem start_bare : ∀ w ∈ bareSteps, w ∈ startSteps := by decide
mutual
theorem Stp.rd : ∀ (s : Stp) (d n n2 : Nat), s.ok → s.dep + d ≤ 6 → At T n s.toks → n2 = n + s.toks.length → tkAt T n2 ≠ "or" → RStep T len d n (.good s n2) ∧ tkAt T n ∈ startSteps ∧ n < n2
  | .word p w, d, n, n2, ok, hd, ha, hn, ho => by
    rw [Stp.toks] at ha hn
    rw [Stp.ok] at ok
    have e0 := ha.head
    have e1 := ha.tail.head
    have e2 := ha.tail.tail.head
    have hn' : n2 = n + 3 := hn
    subst hn'
    rcases ok with ⟨h1, h2⟩ | ⟨h1, h2⟩
    · refine ⟨?_, by rw [e0]; exact start_word p h1, by omega⟩
      have := RStep.word (T := T) (len := len) (d := d) (n := n) (by rw [e0]; exact h1) (by rw [e1]; exact h2) e2
      rw [e0, e1] at this
      exact this
    · refine ⟨?_, by rw [e0]; exact start_class p h1, by omega⟩
      have := RStep.cls (T := T) (len := len) (d := d) (n := n) (by rw [e0]; exact h1) (by rw [e1]; exact h2) e2
      rw [e0, e1] at this
      exact this
  | .bare p, d, n, n2, ok, hd, ha, hn, ho => by
    rw [Stp.toks] at ha hn
    rw [Stp.ok] at ok
    have e0 := ha.head
    have hn' : n2 = n + 2 := hn
    subst hn'
    refine ⟨?_, by rw [e0]; exact start_bare p ok, by omega⟩
    have := RStep.bare (T := T) (len := len) (d := d) (n := n) (by rw [e0]; exact ok) ha.tail.head
    rw [e0] at this
    exact this
  | .loop b, d, n, n2, ok, hd, ha, hn, ho => by
    rw [Stp.toks] at ha hn
    rw [Stp.ok] at ok
    rw [Stp.dep] at hd
    rw [List.length_cons, curl_len] at hn
    have e0 := ha.head
    refine ⟨.nest (by rw [e0]; decide) ?_, by rw [e0]; decide, by omega⟩
    rw [e0]
    exact .loop (rd_blk (fun m m2 h1 h2 h3 h4 => Bdy.rd b (d + 1) m m2 ok (by omega) h1 h2 h3 h4) (by omega) ha.tail (by omega))
  | .cond w b c, d, n, n2, ok, hd, ha, hn, ho => by
    rw [Stp.toks] at ha hn
    rw [Stp.ok] at ok
    rw [Stp.dep] at hd
    simp only [List.length_cons, List.length_append, curl_len] at hn
    have e0 := ha.head
    have e1 := ha.tail.head
    have a2 := ha.tail.tail
    have a3 := a2.right
    rw [curl_len] at a3
    refine ⟨.nest (by rw [e0]; decide) ?_, by rw [e0]; decide, by omega⟩
    rw [e0]
    have r1 : RBlk T len d (n + 1 + 1) (.good b (n + 1 + 1 + (b.toks.length + 2))) := rd_blk (fun m m2 h1 h2 h3 h4 => Bdy.rd b (d + 1) m m2 ok.2.1 (by omega) h1 h2 h3 h4) (by omega) a2.left rfl
    have r2 : RBlk T len d (n + 1 + 1 + (b.toks.length + 2) + 1) (.good c n2) := rd_blk (fun m m2 h1 h2 h3 h4 => Bdy.rd c (d + 1) m m2 ok.2.2 (by omega) h1 h2 h3 h4) (by omega) a3.tail (by omega)
    have := RNest.cond (T := T) (len := len) (d := d) (n := n + 1) (by rw [e1]; exact ok.1) r1 a3.head r2
    rw [e1] at this
    exact this
  | .tri b c, d, n, n2, ok, hd, ha, hn, ho => by
    rw [Stp.toks] at ha hn
    rw [Stp.ok] at ok
    rw [Stp.dep] at hd
    simp only [List.length_cons, List.length_append, curl_len] at hn
    have e0 := ha.head
    have a2 := ha.tail
    have a3 := a2.right
    rw [curl_len] at a3
    refine ⟨.nest (by rw [e0]; decide) ?_, by rw [e0]; decide, by omega⟩
    rw [e0]
    have r1 : RBlk T len d (n + 1) (.good b (n + 1 + (b.toks.length + 2))) := rd_blk (fun m m2 h1 h2 h3 h4 => Bdy.rd b (d + 1) m m2 ok.1 (by omega) h1 h2 h3 h4) (by omega) a2.left rfl
    have r2 : RBlk T len d (n + 1 + (b.toks.length + 2) + 1) (.good c n2) := rd_blk (fun m m2 h1 h2 h3 h4 => Bdy.rd c (d + 1) m m2 ok.2 (by omega) h1 h2 h3 h4) (by omega) a3.tail (by omega)
    exact .tri r1 a3.head r2
  | .alt .nil, d, n, n2, ok, hd, ha, hn, ho => by
    rw [Stp.ok, Bds.count] at ok
    exact absurd ok.1 (by omega)
  | .alt (.cons b bs), d, n, n2, ok, hd, ha, hn, ho => by
    rw [Stp.toks, Bds.toks] at ha hn
    rw [Stp.ok, Bds.count, Bds.ok] at ok
    rw [Stp.dep, Bds.dep] at hd
    simp only [List.length_cons, List.length_append, curl_len] at hn
    have e0 := ha.head
    have a2 := ha.tail
    have a3 := a2.right
    rw [curl_len] at a3
    refine ⟨.nest (by rw [e0]; decide) ?_, by rw [e0]; decide, by omega⟩
    rw [e0]
    have r1 : RBlk T len d (n + 1) (.good b (n + 1 + (b.toks.length + 2))) := rd_blk (fun m m2 h1 h2 h3 h4 => Bdy.rd b (d + 1) m m2 ok.2.1 (by omega) h1 h2 h3 h4) (by omega) a2.left rfl
    have r2 := Bds.rd bs d (n + 1 + (b.toks.length + 2)) n2 ok.2.2 (by omega) a3 (by omega) ho
    cases bs with
    | nil => rw [Bds.count] at ok; exact absurd ok.1 (by omega)
    | cons c cs =>
      rw [Bds.count] at r2
      rw [Bds.toks] at a3
      exact .alt (.ok r1 a3.head r2)
theorem Bdy.rd : ∀ (b : Bdy) (d n n2 : Nat), b.ok → b.dep + d ≤ 6 → At T n b.toks → n2 = n + b.toks.length → tkAt T n2 ∉ startSteps → tkAt T n2 ≠ "or" → ∃ k, RBody T len d n k (.good b n2)
  | .nil, d, n, n2, ok, hd, ha, hn, hs, ho => by
    rw [Bdy.toks] at hn
    have e : n2 = n := hn
    subst e
    exact ⟨0, .stop hs⟩
  | .cons s b, d, n, n2, ok, hd, ha, hn, hs, ho => by
    rw [Bdy.toks] at ha hn
    rw [Bdy.ok] at ok
    rw [Bdy.dep] at hd
    rw [List.length_append] at hn
    obtain ⟨k, hk⟩ := Bdy.rd b d (n + s.toks.length) n2 ok.2 (by omega) ha.right (by omega) hs ho
    have hor : tkAt T (n + s.toks.length) ≠ "or" := by
      cases hk with
      | stop h => exact ho
      | next h _ _ _ => exact (start_out _ h).2
    obtain ⟨h1, h2, h3⟩ := Stp.rd s d n (n + s.toks.length) ok.1 (by omega) ha.left rfl hor
    exact ⟨k + 1, .next h2 h1 h3 hk⟩
theorem Bds.rd : ∀ (bs : Bds) (d n n2 : Nat), bs.ok → bs.dep + 1 + d ≤ 6 → At T n (bs.toks "or") → n2 = n + (bs.toks "or").length → tkAt T n2 ≠ "or" → RMore T len d n bs.count (.good bs n2)
  | .nil, d, n, n2, ok, hd, ha, hn, ho => by
    rw [Bds.toks] at hn
    have e : n2 = n := hn
    subst e
    rw [Bds.count]
    exact .stop ho
  | .cons b bs, d, n, n2, ok, hd, ha, hn, ho => by
    rw [Bds.toks] at ha hn
    rw [Bds.ok] at ok
    rw [Bds.dep] at hd
    simp only [List.length_cons, List.length_append, curl_len] at hn
    have a2 := ha.tail
    have a3 := a2.right
    rw [curl_len] at a3
    have r1 : RBlk T len d (n + 1) (.good b (n + 1 + (b.toks.length + 2))) := rd_blk (fun m m2 h1 h2 h3 h4 => Bdy.rd b (d + 1) m m2 ok.1 (by omega) h1 h2 h3 h4) (by omega) a2.left rfl
    have r2 := Bds.rd bs d (n + 1 + (b.toks.length + 2)) n2 ok.2 (by omega) a3 (by omega) ho
    rw [Bds.count]
    exact .next ha.head r1 (by omega) r2
end
end
/-- a text whose tokens are those of a body reads as that body -/
theorem reads_of {z : Str} {b : Bdy} (ok : b.ok) (hd : b.dep ≤ 6) (h : (tokens z).map (·.2) = b.toks) : Reads2 z (.good b b.toks.length) := by
  have hl : (tokens z).length = b.toks.length := by rw [← h, List.length_map]
  have ha : At (tokens z) 0 b.toks := fun i w e => by
    rw [← h, List.getElem?_map] at e
    rw [Nat.zero_add]
    unfold tkAt
    cases q : (tokens z)[i]? with
    | none => rw [q] at e; cases e
    | some t => rw [q] at e; exact Option.some.inj e
  have he : tkAt (tokens z) b.toks.length = "" := by
    unfold tkAt
    rw [List.getElem?_eq_none (by omega)]
  exact ⟨Bdy.rd b 0 0 _ ok (by omega) ha (by omega) (by rw [he]; decide) (by rw [he]; decide), he⟩
end Ef

namespace Ef
open PySem PySem.Spec PyProof.Rows L2 Evl
/-! tokens and lengths of written bodies -/
def tks (z : Str) : List Str := (tokens z).map (·.2)
theorem tok_pos : ∀ (m : Nat) (l : List Nat) (p q : Nat), l.length ≤ m → (tokenize p l).map (·.2) = (tokenize q l).map (·.2)
  | m, [], p, q, _ => by rw [tokenize, tokenize]
  | 0, c :: r, p, q, h => by simp at h
  | m + 1, c :: r, p, q, h => by
    have hr : r.length ≤ m := by simp at h; omega
    have hd : (r.dropWhile isLet).length ≤ m := by
      have := (List.dropWhile_sublist (l := r) isLet).length_le
      omega
    rw [tokenize, tokenize]
    split
    · rw [List.map_cons, List.map_cons, tok_pos m _ _ (q + 1 + (r.takeWhile isLet).length) hd]
    · split
      · exact tok_pos m r _ _ hr
      · rw [List.map_cons, List.map_cons, tok_pos m r _ (q + 1) hr]
theorem tks_list (z : Str) : tks z = (tokA 0 z.cps.toList).map (·.2) := rfl
theorem tokA_pos (l : List Nat) (p q : Nat) : (tokA p l).map (·.2) = (tokA q l).map (·.2) := by
  have h := congrArg (List.map fun l : List Nat => (⟨l.toArray⟩ : Str)) (tok_pos l.length l p q (Nat.le_refl _))
  unfold tokA
  rw [List.map_map, List.map_map] at h ⊢
  exact h
theorem tks_app {a c : Str} (h : Apart a.cps.toList c.cps.toList) : tks (a ++ c) = tks a ++ tks c := by
  rw [tks_list, cat_list, tokA_app h, List.map_append, tokA_pos c.cps.toList _ 0]
  rfl
theorem blank1 : ∀ c ∈ (" " : Str).cps.toList, isBlank c = true := by decide +kernel
theorem tks_sp (a c : Str) : tks (a ++ " " ++ c) = tks a ++ tks c := by
  have h1 : Apart (a ++ " " : Str).cps.toList c.cps.toList := .inl fun x e => by
    rw [cat_list, show (" " : Str).cps.toList = [32] by decide +kernel, List.getLast?_append] at e
    have : (32 : Nat) = x := by simpa using e
    subst this
    decide +kernel
  have h2 : tks (" " : Str) = [] := by rw [tks_list, tokA_blank blank1]; rfl
  rw [tks_app h1, tks_app (apart_blank blank1), h2, List.append_nil]
theorem tks_one {w : Str} (h : gTok w) : tks w = [w] := by rw [tks_list, tokA_one h]; rfl
theorem g_sign {c : Nat} {w : Str} (h1 : w.cps.toList = [c]) (h2 : c < 128) (h3 : isLet c = false) (h4 : isBlank c = false) : gTok w := ⟨by rw [str_len, h1]; show 1 ≤ 9; decide, .inr ⟨c, h1, h2, h3, h4⟩⟩
theorem g_semi : gTok ";" := g_sign (c := 59) (by decide +kernel) (by decide) (by decide +kernel) (by decide +kernel)
theorem g_open : gTok "{" := g_sign (c := 123) (by decide +kernel) (by decide) (by decide +kernel) (by decide +kernel)
theorem g_close : gTok "}" := g_sign (c := 125) (by decide +kernel) (by decide) (by decide +kernel) (by decide +kernel)
theorem small_let : ∀ c ∈ smalls.cps.toList, isLet c = true := by decide +kernel
theorem large_let : ∀ c ∈ larges.cps.toList, isLet c = true := by decide +kernel
theorem g_word {w : Str} (h : fitsW w = true) : gTok w := by
  unfold fitsW at h
  simp only [Bool.and_eq_true, List.all_eq_true, decide_eq_true_eq] at h
  refine ⟨by omega, .inl ⟨fun e => ?_, fun c hc => small_let c (h.2.2 c hc)⟩⟩
  have := h.1.1
  rw [str_len, e] at this
  simp at this
theorem g_class {w : Str} (h : fitsC w = true) : gTok w := by
  unfold fitsC at h
  rw [Bool.and_eq_true] at h
  obtain ⟨h1, h2⟩ := h
  simp only [Bool.and_eq_true, decide_eq_true_eq] at h1
  refine ⟨by omega, .inl ⟨fun e => ?_, ?_⟩⟩
  · rw [e] at h2; cases h2
  · split at h2
    · cases h2
    · rename_i c r hc
      simp only [Bool.and_eq_true, List.all_eq_true, decide_eq_true_eq] at h2
      intro d hd
      rw [hc] at hd
      rcases List.mem_cons.mp hd with rfl | hd
      · exact large_let _ h2.1
      · exact small_let _ (h2.2 _ hd)
def keys : List Str := ["set", "keep", "read", "look", "call", "of", "make", "super", "fail", "loop", "if", "try", "either", "or", "else", "catch"]
theorem keys_ok : ∀ w ∈ keys, w.length ≤ 9 ∧ w.cps.toList ≠ [] ∧ ∀ c ∈ w.cps.toList, isLet c = true := by decide +kernel
theorem g_key {w : Str} (h : w ∈ keys) : gTok w := ⟨(keys_ok w h).1, .inl (keys_ok w h).2⟩
theorem key_word : ∀ w ∈ wordSteps, w ∈ keys := by decide
theorem key_class : ∀ w ∈ classSteps, w ∈ keys := by decide
theorem key_bare : ∀ w ∈ bareSteps, w ∈ keys := by decide
theorem step_name {p n : Str} (h : Stp.ok (.word p n)) : gTok p ∧ gTok n := by
  rw [Stp.ok] at h
  rcases h with ⟨h1, h2⟩ | ⟨h1, h2⟩
  · exact ⟨g_key (key_word _ h1), g_word h2⟩
  · exact ⟨g_key (key_class _ h1), g_class h2⟩
theorem g_curl {l : List Str} (h : ∀ t ∈ l, gTok t) : ∀ t ∈ curl l, gTok t := fun t ht => by
  unfold curl at ht
  rcases List.mem_cons.mp ht with rfl | ht
  · exact g_open
  · rcases List.mem_append.mp ht with ht | ht
    · exact h t ht
    · rw [List.mem_singleton.mp ht]; exact g_close
theorem g_app {l r : List Str} (h1 : ∀ t ∈ l, gTok t) (h2 : ∀ t ∈ r, gTok t) : ∀ t ∈ l ++ r, gTok t := fun t ht => by
  rcases List.mem_append.mp ht with ht | ht
  · exact h1 t ht
  · exact h2 t ht
theorem g_cons {w : Str} {r : List Str} (h1 : gTok w) (h2 : ∀ t ∈ r, gTok t) : ∀ t ∈ w :: r, gTok t := fun t ht => by
  rcases List.mem_cons.mp ht with rfl | ht
  · exact h1
  · exact h2 t ht
theorem g_nil : ∀ t ∈ ([] : List Str), gTok t := fun t h => by cases h
mutual
theorem Stp.gt : ∀ s : Stp, s.ok → ∀ t ∈ s.toks, gTok t
  | .word p n, h => by rw [Stp.toks]; exact g_cons (step_name h).1 (g_cons (step_name h).2 (g_cons g_semi g_nil))
  | .bare p, h => by rw [Stp.toks]; rw [Stp.ok] at h; exact g_cons (g_key (key_bare _ h)) (g_cons g_semi g_nil)
  | .loop b, h => by rw [Stp.toks]; rw [Stp.ok] at h; exact g_cons (g_key (by decide)) (g_curl (Bdy.gt b h))
  | .cond n b c, h => by rw [Stp.toks]; rw [Stp.ok] at h; exact g_cons (g_key (by decide)) (g_cons (g_word h.1) (g_app (g_curl (Bdy.gt b h.2.1)) (g_cons (g_key (by decide)) (g_curl (Bdy.gt c h.2.2)))))
  | .tri b c, h => by rw [Stp.toks]; rw [Stp.ok] at h; exact g_cons (g_key (by decide)) (g_app (g_curl (Bdy.gt b h.1)) (g_cons (g_key (by decide)) (g_curl (Bdy.gt c h.2))))
  | .alt bs, h => by rw [Stp.toks]; rw [Stp.ok] at h; exact Bds.gt bs h.2 "either" (g_key (by decide))
theorem Bdy.gt : ∀ b : Bdy, b.ok → ∀ t ∈ b.toks, gTok t
  | .nil, h => by rw [Bdy.toks]; exact g_nil
  | .cons s b, h => by rw [Bdy.toks]; rw [Bdy.ok] at h; exact g_app (Stp.gt s h.1) (Bdy.gt b h.2)
theorem Bds.gt : ∀ bs : Bds, bs.ok → ∀ w : Str, gTok w → ∀ t ∈ bs.toks w, gTok t
  | .nil, h, w, hw => by rw [Bds.toks]; exact g_nil
  | .cons b bs, h, w, hw => by rw [Bds.toks]; rw [Bds.ok] at h; exact g_cons hw (g_app (g_curl (Bdy.gt b h.1)) (Bds.gt bs h.2 "or" (g_key (by decide))))
end
theorem join_cons (s x y : Str) (r : List Str) : Txt.join s (x :: y :: r) = x ++ s ++ Txt.join s (y :: r) := by
  have e : ∀ l, Txt.join s l = Str.join s l := fun l => PySem.StrLaws.glued_eq_join s l
  rw [e, e]; rfl
theorem join_one (s x : Str) : Txt.join s [x] = x := by
  have e : Txt.join s [x] = Str.join s [x] := PySem.StrLaws.glued_eq_join s [x]
  rw [e]; rfl
theorem tks_join : ∀ (x : Str) (l : List Str), tks (Txt.join " " (x :: l)) = tks x ++ (l.map tks).flatten
  | x, [] => by rw [join_one]; simp
  | x, y :: l => by rw [join_cons, tks_sp, tks_join y l, List.map_cons, List.flatten_cons]
theorem tks_semi (a : Str) : tks (a ++ ";") = tks a ++ [(";" : Str)] := by
  rw [tks_app (.inr fun x e => ?_), tks_one g_semi]
  rw [show (";" : Str).cps.toList = [59] by decide +kernel] at e
  cases e
  decide +kernel
theorem tks_blk {b : Bdy} (h : tks b.txt = b.toks) : tks b.blk = curl b.toks := by
  cases b with
  | nil =>
    rw [Bdy.blk, Bdy.toks, show ("{ }" : Str) = "{" ++ " " ++ "}" by decide +kernel, tks_sp, tks_one g_open, tks_one g_close]
    rfl
  | cons s b =>
    rw [blk_cons, show ("{ " : Str) = "{" ++ " " by decide +kernel, show (" }" : Str) = " " ++ "}" by decide +kernel, ← app_assoc, tks_sp, tks_sp, tks_one g_open, tks_one g_close, h]
    rfl
mutual
theorem Stp.tk : ∀ s : Stp, s.ok → tks s.txt = s.toks
  | .word p n, h => by
    rw [Stp.txt, Stp.toks, tks_semi, join_cons, join_one, tks_sp, tks_one (step_name h).1, tks_one (step_name h).2]; rfl
  | .bare p, h => by
    rw [Stp.ok] at h
    rw [Stp.txt, Stp.toks, tks_semi, join_one, tks_one (g_key (key_bare _ h))]; rfl
  | .loop b, h => by
    rw [Stp.ok] at h
    rw [Stp.txt, Stp.toks, show ("loop " : Str) = "loop" ++ " " by decide +kernel, tks_sp, tks_one (w := "loop") (g_key (by decide)), tks_blk (Bdy.tk b h)]; rfl
  | .cond n b c, h => by
    rw [Stp.ok] at h
    have e : ("if " ++ n ++ " " ++ b.blk ++ " else " ++ c.blk : Str) = "if" ++ " " ++ n ++ " " ++ b.blk ++ " " ++ "else" ++ " " ++ c.blk := by
      rw [show ("if " : Str) = "if" ++ " " by decide +kernel, show (" else " : Str) = " " ++ "else" ++ " " by decide +kernel]
      simp only [app_assoc]
    rw [Stp.txt, e, tks_sp, tks_sp, tks_sp, tks_sp, tks_one (w := "if") (g_key (by decide)), tks_one (g_word h.1), tks_one (w := "else") (g_key (by decide)), tks_blk (Bdy.tk b h.2.1), tks_blk (Bdy.tk c h.2.2), Stp.toks]
    simp
  | .tri b c, h => by
    rw [Stp.ok] at h
    have e : ("try " ++ b.blk ++ " catch " ++ c.blk : Str) = "try" ++ " " ++ b.blk ++ " " ++ "catch" ++ " " ++ c.blk := by
      rw [show ("try " : Str) = "try" ++ " " by decide +kernel, show (" catch " : Str) = " " ++ "catch" ++ " " by decide +kernel]
      simp only [app_assoc]
    rw [Stp.txt, e, tks_sp, tks_sp, tks_sp, tks_one (w := "try") (g_key (by decide)), tks_one (w := "catch") (g_key (by decide)), tks_blk (Bdy.tk b h.1), tks_blk (Bdy.tk c h.2), Stp.toks]
    simp
  | .alt .nil, h => by
    rw [Stp.ok, Bds.count] at h
    exact absurd h.1 (by omega)
  | .alt (.cons b bs), h => by
    rw [Stp.ok, Bds.ok] at h
    rw [Stp.txt, Stp.toks, show ("either " : Str) = "either" ++ " " by decide +kernel, tks_sp, tks_one (w := "either") (g_key (by decide)), Bds.toks, Bds.blks, Bds.tk bs h.2.2 b.blk, tks_blk (Bdy.tk b h.2.1)]; rfl
theorem Bdy.tk : ∀ b : Bdy, b.ok → tks b.txt = b.toks
  | .nil, h => by
    rw [Bdy.toks]
    have e : Bdy.txt .nil = "" := by unfold Bdy.txt; rw [Bdy.txts]; rfl
    rw [e, tks_list, tokA_blank (fun c hc => by cases hc)]; rfl
  | .cons s .nil, h => by
    rw [Bdy.ok] at h
    unfold Bdy.txt
    rw [Bdy.txts, Bdy.txts, join_one, Stp.tk s h.1, Bdy.toks, Bdy.toks, List.append_nil]
  | .cons s (.cons t b), h => by
    rw [Bdy.ok] at h
    have ih := Bdy.tk (.cons t b) h.2
    unfold Bdy.txt at ih ⊢
    rw [Bdy.toks, ← ih, Bdy.txts, Bdy.txts, join_cons, tks_sp, Stp.tk s h.1]
theorem Bds.tk : ∀ bs : Bds, bs.ok → ∀ x : Str, tks (Txt.join " or " (x :: bs.blks)) = tks x ++ bs.toks "or"
  | .nil, h, x => by rw [Bds.blks, Bds.toks, join_one, List.append_nil]
  | .cons b bs, h, x => by
    rw [Bds.ok] at h
    rw [Bds.blks, join_cons, show (" or " : Str) = " " ++ "or" ++ " " by decide +kernel]
    have e : (x ++ (" " ++ "or" ++ " ") ++ Txt.join (" " ++ "or" ++ " ") (b.blk :: bs.blks) : Str) = x ++ " " ++ "or" ++ " " ++ Txt.join (" " ++ "or" ++ " ") (b.blk :: bs.blks) := by simp only [app_assoc]
    rw [e, tks_sp, tks_sp, tks_one (w := "or") (g_key (by decide)), ← show (" or " : Str) = " " ++ "or" ++ " " by decide +kernel, Bds.tk bs h.2 b.blk, tks_blk (Bdy.tk b h.1), Bds.toks]
    simp
end
end Ef

namespace Ef
open PySem PySem.Spec PyProof.Rows L2 Evl
theorem blk_ln {b : Bdy} (h : b.txt.length ≤ 9 * b.toks.length) : b.blk.length + 1 ≤ 9 * (b.toks.length + 2) := by
  cases b with
  | nil => rw [Bdy.blk]; show 3 + 1 ≤ _; omega
  | cons s b =>
    rw [blk_cons, len_app, len_app]
    have e1 : ("{ " : Str).length = 2 := by decide
    have e2 : (" }" : Str).length = 2 := by decide
    omega
theorem bare_len : ∀ w ∈ bareSteps, w.length ≤ 8 := by decide
mutual
theorem Stp.ln : ∀ s : Stp, s.ok → s.txt.length + 1 ≤ 9 * s.toks.length
  | .word p n, h => by
    have h1 := (step_name h).1.1
    have h2 := (step_name h).2.1
    rw [Stp.txt, Stp.toks, join_cons, join_one, len_app, len_app, len_app]
    have e1 : (" " : Str).length = 1 := by decide
    have e2 : (";" : Str).length = 1 := by decide
    show _ ≤ 9 * 3
    omega
  | .bare p, h => by
    rw [Stp.ok] at h
    have h1 := bare_len _ h
    rw [Stp.txt, Stp.toks, join_one, len_app]
    have e2 : (";" : Str).length = 1 := by decide
    show _ ≤ 9 * 2
    omega
  | .loop b, h => by
    rw [Stp.ok] at h
    have := blk_ln (Bdy.ln b h)
    rw [Stp.txt, Stp.toks, len_app, List.length_cons, curl_len]
    have e2 : ("loop " : Str).length = 5 := by decide
    omega
  | .cond n b c, h => by
    rw [Stp.ok] at h
    have h1 := blk_ln (Bdy.ln b h.2.1)
    have h2 := blk_ln (Bdy.ln c h.2.2)
    have h3 := (g_word h.1).1
    rw [Stp.txt, Stp.toks]
    simp only [len_app, List.length_cons, List.length_append, curl_len]
    have e1 : ("if " : Str).length = 3 := by decide
    have e2 : (" " : Str).length = 1 := by decide
    have e3 : (" else " : Str).length = 6 := by decide
    omega
  | .tri b c, h => by
    rw [Stp.ok] at h
    have h1 := blk_ln (Bdy.ln b h.1)
    have h2 := blk_ln (Bdy.ln c h.2)
    rw [Stp.txt, Stp.toks]
    simp only [len_app, List.length_cons, List.length_append, curl_len]
    have e1 : ("try " : Str).length = 4 := by decide
    have e3 : (" catch " : Str).length = 7 := by decide
    omega
  | .alt .nil, h => by
    rw [Stp.ok, Bds.count] at h
    exact absurd h.1 (by omega)
  | .alt (.cons b bs), h => by
    rw [Stp.ok, Bds.ok] at h
    have h1 := blk_ln (Bdy.ln b h.2.1)
    have h2 := Bds.ln bs h.2.2 b.blk
    rw [Stp.txt, Stp.toks, Bds.blks, Bds.toks]
    simp only [len_app, List.length_cons, List.length_append, curl_len]
    have e1 : ("either " : Str).length = 7 := by decide
    omega
theorem Bdy.ln : ∀ b : Bdy, b.ok → b.txt.length ≤ 9 * b.toks.length
  | .nil, h => by
    have e : Bdy.txt .nil = "" := by unfold Bdy.txt; rw [Bdy.txts]; rfl
    rw [e]; show 0 ≤ _; omega
  | .cons s .nil, h => by
    rw [Bdy.ok] at h
    have := Stp.ln s h.1
    unfold Bdy.txt
    rw [Bdy.txts, Bdy.txts, join_one, Bdy.toks, Bdy.toks, List.append_nil]
    omega
  | .cons s (.cons t b), h => by
    rw [Bdy.ok] at h
    have h1 := Stp.ln s h.1
    have ih := Bdy.ln (.cons t b) h.2
    unfold Bdy.txt at ih ⊢
    rw [Bdy.txts] at ih
    rw [Bdy.toks, Bdy.txts, Bdy.txts, join_cons, len_app, len_app, List.length_append]
    have e2 : (" " : Str).length = 1 := by decide
    omega
theorem Bds.ln : ∀ bs : Bds, bs.ok → ∀ x : Str, (Txt.join " or " (x :: bs.blks)).length ≤ x.length + 9 * (bs.toks "or").length
  | .nil, h, x => by rw [Bds.blks, join_one]; omega
  | .cons b bs, h, x => by
    rw [Bds.ok] at h
    have h1 := blk_ln (Bdy.ln b h.1)
    have h2 := Bds.ln bs h.2 b.blk
    rw [Bds.blks, join_cons, len_app, len_app, Bds.toks]
    simp only [List.length_cons, List.length_append, curl_len]
    have e2 : (" or " : Str).length = 4 := by decide
    omega
end
end Ef

/-! a machine that reads tokens one by one, with a stack of what must come; where it stops, the reader raises -/
namespace Ef
open PySem PySem.Spec PyProof.Rows L2 Evl
inductive It where
  | semi | wordS | clsS | ifW (d : Nat) | elseB (d : Nat) | catchB (d : Nat) | orB (d : Nat) | alts (d : Nat) | blk (d : Nat) | close | body (d : Nat)
  deriving DecidableEq
def It.eps : It → Bool
  | .alts _ => true
  | .body _ => true
  | _ => false
def expand (d : Nat) (t : Str) : List It :=
  if t ∈ wordSteps then [.wordS] else if t ∈ classSteps then [.clsS] else if t ∈ bareSteps then [.semi] else if t = "loop" then [.blk d] else if t = "if" then [.ifW d] else if t = "try" then [.blk d, .catchB d] else [.blk d, .orB d]
def stp (L : Nat) (t : Str) : List It → Option (List It)
  | [] => none
  | .semi :: S => if t = ";" then some S else none
  | .wordS :: S => if fitsW t = true then some (.semi :: S) else none
  | .clsS :: S => if fitsC t = true then some (.semi :: S) else none
  | .ifW d :: S => if fitsW t = true then some (.blk d :: .elseB d :: S) else none
  | .elseB d :: S => if t = "else" then some (.blk d :: S) else none
  | .catchB d :: S => if t = "catch" then some (.blk d :: S) else none
  | .orB d :: S => if t = "or" then some (.blk d :: .alts d :: S) else none
  | .alts d :: S => if t = "or" then some (.blk d :: .alts d :: S) else stp L t S
  | .blk d :: S => if d = L then none else if t = "{" then some (.body (d + 1) :: .close :: S) else none
  | .close :: S => if t = "}" then some S else none
  | .body d :: S => if t ∈ startSteps then some (expand d t ++ .body d :: S) else stp L t S
/-- the reading stops at the m-th token -/
inductive Fails (T : List (Int × Str)) : List It → Nat → Nat → Prop
  | now {S : List It} {n : Nat} : stp 6 (tkAt T n) S = none → (tkAt T n = "" → S.all It.eps = false) → Fails T S n n
  | later {S S' : List It} {n m : Nat} : stp 6 (tkAt T n) S = some S' → Fails T S' (n + 1) m → Fails T S n m
theorem Fails.le {T : List (Int × Str)} {S : List It} {n m : Nat} (h : Fails T S n m) : n ≤ m := by
  induction h with
  | now _ _ => exact Nat.le_refl _
  | later _ _ ih => omega
section
variable {T : List (Int × Str)} {len : Int} {S : List It} {n m d : Nat}
theorem fitsW_nil : fitsW "" = false := by decide
theorem fitsC_nil : fitsC "" = false := by decide
/-- the top item takes the token, or the reading stops here -/
theorem Fails.top {i : It} (h : Fails T (i :: S) n m) : (stp 6 (tkAt T n) (i :: S) = none ∧ m = n ∧ (tkAt T n = "" → (i :: S).all It.eps = false)) ∨ ∃ S', stp 6 (tkAt T n) (i :: S) = some S' ∧ Fails T S' (n + 1) m := by
  cases h with
  | now h1 h2 => exact .inl ⟨h1, rfl, h2⟩
  | later h1 h2 => exact .inr ⟨_, h1, h2⟩
theorem Fails.pop {i : It} (he : i.eps = true) (h : stp 6 (tkAt T n) (i :: S) = stp 6 (tkAt T n) S) (x : Fails T (i :: S) n m) : Fails T S n m := by
  cases x with
  | now h1 h2 =>
    refine .now (h ▸ h1) fun e => ?_
    have := h2 e
    rw [List.all_cons, he, Bool.true_and] at this
    exact this
  | later h1 h2 => exact .later (h ▸ h1) h2
theorem Fails.semi (x : Fails T (.semi :: S) n m) : (tkAt T n ≠ ";" ∧ m = n) ∨ (tkAt T n = ";" ∧ Fails T S (n + 1) m) := by
  by_cases h : tkAt T n = ";"
  · rcases x.top with ⟨h1, _⟩ | ⟨S', h1, h2⟩
    · rw [stp, if_pos h] at h1; cases h1
    · rw [stp, if_pos h] at h1; cases h1; exact .inr ⟨h, h2⟩
  · rcases x.top with ⟨h1, h2, _⟩ | ⟨S', h1, h2⟩
    · exact .inl ⟨h, h2⟩
    · rw [stp, if_neg h] at h1; cases h1
theorem Fails.close (x : Fails T (.close :: S) n m) : (tkAt T n ≠ "}" ∧ m = n) ∨ (tkAt T n = "}" ∧ Fails T S (n + 1) m) := by
  by_cases h : tkAt T n = "}"
  · rcases x.top with ⟨h1, _⟩ | ⟨S', h1, h2⟩
    · rw [stp, if_pos h] at h1; cases h1
    · rw [stp, if_pos h] at h1; cases h1; exact .inr ⟨h, h2⟩
  · rcases x.top with ⟨h1, h2, _⟩ | ⟨S', h1, h2⟩
    · exact .inl ⟨h, h2⟩
    · rw [stp, if_neg h] at h1; cases h1
theorem Fails.elseB (x : Fails T (.elseB d :: S) n m) : (tkAt T n ≠ "else" ∧ m = n) ∨ (tkAt T n = "else" ∧ Fails T (.blk d :: S) (n + 1) m) := by
  by_cases h : tkAt T n = "else"
  · rcases x.top with ⟨h1, _⟩ | ⟨S', h1, h2⟩
    · rw [stp, if_pos h] at h1; cases h1
    · rw [stp, if_pos h] at h1; cases h1; exact .inr ⟨h, h2⟩
  · rcases x.top with ⟨h1, h2, _⟩ | ⟨S', h1, h2⟩
    · exact .inl ⟨h, h2⟩
    · rw [stp, if_neg h] at h1; cases h1
theorem Fails.catchB (x : Fails T (.catchB d :: S) n m) : (tkAt T n ≠ "catch" ∧ m = n) ∨ (tkAt T n = "catch" ∧ Fails T (.blk d :: S) (n + 1) m) := by
  by_cases h : tkAt T n = "catch"
  · rcases x.top with ⟨h1, _⟩ | ⟨S', h1, h2⟩
    · rw [stp, if_pos h] at h1; cases h1
    · rw [stp, if_pos h] at h1; cases h1; exact .inr ⟨h, h2⟩
  · rcases x.top with ⟨h1, h2, _⟩ | ⟨S', h1, h2⟩
    · exact .inl ⟨h, h2⟩
    · rw [stp, if_neg h] at h1; cases h1
theorem Fails.orB (x : Fails T (.orB d :: S) n m) : (tkAt T n ≠ "or" ∧ m = n) ∨ (tkAt T n = "or" ∧ Fails T (.blk d :: .alts d :: S) (n + 1) m) := by
  by_cases h : tkAt T n = "or"
  · rcases x.top with ⟨h1, _⟩ | ⟨S', h1, h2⟩
    · rw [stp, if_pos h] at h1; cases h1
    · rw [stp, if_pos h] at h1; cases h1; exact .inr ⟨h, h2⟩
  · rcases x.top with ⟨h1, h2, _⟩ | ⟨S', h1, h2⟩
    · exact .inl ⟨h, h2⟩
    · rw [stp, if_neg h] at h1; cases h1
theorem Fails.alts (x : Fails T (.alts d :: S) n m) : (tkAt T n ≠ "or" ∧ Fails T S n m) ∨ (tkAt T n = "or" ∧ Fails T (.blk d :: .alts d :: S) (n + 1) m) := by
  by_cases h : tkAt T n = "or"
  · rcases x.top with ⟨h1, _⟩ | ⟨S', h1, h2⟩
    · rw [stp, if_pos h] at h1; cases h1
    · rw [stp, if_pos h] at h1; cases h1; exact .inr ⟨h, h2⟩
  · exact .inl ⟨h, x.pop rfl (by rw [stp, if_neg h])⟩
theorem Fails.wordS (x : Fails T (.wordS :: S) n m) : (fitsW (tkAt T n) = false ∧ m = n) ∨ (fitsW (tkAt T n) = true ∧ Fails T (.semi :: S) (n + 1) m) := by
  cases h : fitsW (tkAt T n) with
  | true =>
    rcases x.top with ⟨h1, _⟩ | ⟨S', h1, h2⟩
    · rw [stp, if_pos h] at h1; cases h1
    · rw [stp, if_pos h] at h1; cases h1; exact .inr ⟨rfl, h2⟩
  | false =>
    rcases x.top with ⟨h1, h2, _⟩ | ⟨S', h1, h2⟩
    · exact .inl ⟨rfl, h2⟩
    · rw [stp, if_neg (by rw [h]; decide)] at h1; cases h1
theorem Fails.clsS (x : Fails T (.clsS :: S) n m) : (fitsC (tkAt T n) = false ∧ m = n) ∨ (fitsC (tkAt T n) = true ∧ Fails T (.semi :: S) (n + 1) m) := by
  cases h : fitsC (tkAt T n) with
  | true =>
    rcases x.top with ⟨h1, _⟩ | ⟨S', h1, h2⟩
    · rw [stp, if_pos h] at h1; cases h1
    · rw [stp, if_pos h] at h1; cases h1; exact .inr ⟨rfl, h2⟩
  | false =>
    rcases x.top with ⟨h1, h2, _⟩ | ⟨S', h1, h2⟩
    · exact .inl ⟨rfl, h2⟩
    · rw [stp, if_neg (by rw [h]; decide)] at h1; cases h1
theorem Fails.ifW (x : Fails T (.ifW d :: S) n m) : (fitsW (tkAt T n) = false ∧ m = n) ∨ (fitsW (tkAt T n) = true ∧ Fails T (.blk d :: .elseB d :: S) (n + 1) m) := by
  cases h : fitsW (tkAt T n) with
  | true =>
    rcases x.top with ⟨h1, _⟩ | ⟨S', h1, h2⟩
    · rw [stp, if_pos h] at h1; cases h1
    · rw [stp, if_pos h] at h1; cases h1; exact .inr ⟨rfl, h2⟩
  | false =>
    rcases x.top with ⟨h1, h2, _⟩ | ⟨S', h1, h2⟩
    · exact .inl ⟨rfl, h2⟩
    · rw [stp, if_neg (by rw [h]; decide)] at h1; cases h1
theorem Fails.blk (x : Fails T (.blk d :: S) n m) : (d = 6 ∧ m = n) ∨ (d ≠ 6 ∧ tkAt T n ≠ "{" ∧ m = n) ∨ (d ≠ 6 ∧ tkAt T n = "{" ∧ Fails T (.body (d + 1) :: .close :: S) (n + 1) m) := by
  by_cases hd : d = 6
  · rcases x.top with ⟨h1, h2, _⟩ | ⟨S', h1, h2⟩
    · exact .inl ⟨hd, h2⟩
    · rw [stp, if_pos hd] at h1; cases h1
  · by_cases h : tkAt T n = "{"
    · rcases x.top with ⟨h1, _⟩ | ⟨S', h1, h2⟩
      · rw [stp, if_neg hd, if_pos h] at h1; cases h1
      · rw [stp, if_neg hd, if_pos h] at h1; cases h1; exact .inr (.inr ⟨hd, h, h2⟩)
    · rcases x.top with ⟨h1, h2, _⟩ | ⟨S', h1, h2⟩
      · exact .inr (.inl ⟨hd, h, h2⟩)
      · rw [stp, if_neg hd, if_neg h] at h1; cases h1
theorem Fails.body (x : Fails T (.body d :: S) n m) : (tkAt T n ∉ startSteps ∧ Fails T S n m) ∨ (tkAt T n ∈ startSteps ∧ Fails T (expand d (tkAt T n) ++ .body d :: S) (n + 1) m) := by
  by_cases h : tkAt T n ∈ startSteps
  · rcases x.top with ⟨h1, _⟩ | ⟨S', h1, h2⟩
    · rw [stp, if_pos h] at h1; cases h1
    · rw [stp, if_pos h] at h1; cases h1; exact .inr ⟨h, h2⟩
  · exact .inl ⟨h, x.pop rfl (by rw [stp, if_neg h])⟩
theorem start_kind : ∀ w ∈ startSteps, w ∈ wordSteps ∨ w ∈ classSteps ∨ w ∈ bareSteps ∨ w = "loop" ∨ w = "if" ∨ w = "try" ∨ w = "either" := by decide
theorem exp_word : ∀ w ∈ wordSteps, expand d w = [.wordS] := fun w h => by unfold expand; rw [if_pos h]
theorem exp_cls : ∀ w ∈ classSteps, expand d w = [.clsS] := fun w h => by
  unfold expand; rw [if_neg ((by decide : ∀ w ∈ classSteps, w ∉ wordSteps) w h), if_pos h]
theorem exp_bare : ∀ w ∈ bareSteps, expand d w = [.semi] := fun w h => by
  unfold expand; rw [if_neg ((by decide : ∀ w ∈ bareSteps, w ∉ wordSteps) w h), if_neg ((by decide : ∀ w ∈ bareSteps, w ∉ classSteps) w h), if_pos h]
theorem exp_loop : expand d "loop" = [.blk d] := rfl
theorem exp_if : expand d "if" = [.ifW d] := rfl
theorem exp_try : expand d "try" = [.blk d, .catchB d] := rfl
theorem exp_either : expand d "either" = [.blk d, .orB d] := rfl
end
/-- the machine's stops are the reader's errors -/
theorem sim {T : List (Int × Str)} {len : Int} {m : Nat} : ∀ (j n d : Nat) (S : List It), m + 1 ≤ n + j →
    (Fails T (.body d :: S) n m → (∃ k, RBody T len d n k (.bad (psAt T len m))) ∨ ∃ k b n1, RBody T len d n k (.good b n1) ∧ n ≤ n1 ∧ Fails T S n1 m) ∧
    (Fails T (.blk d :: S) n m → RBlk T len d n (.bad (psAt T len m)) ∨ ∃ b n1, RBlk T len d n (.good b n1) ∧ n < n1 ∧ Fails T S n1 m) ∧
    (Fails T (.alts d :: S) n m → (∃ k, RMore T len d n k (.bad (psAt T len m))) ∨ ∃ k bs n1, RMore T len d n k (.good bs n1) ∧ n ≤ n1 ∧ Fails T S n1 m)
  | 0, n, d, S, hj => ⟨fun x => absurd x.le (by omega), fun x => absurd x.le (by omega), fun x => absurd x.le (by omega)⟩
  | j + 1, n, d, S, hj => by
    have ihB : ∀ n' d' S', n < n' → Fails T (.body d' :: S') n' m → (∃ k, RBody T len d' n' k (.bad (psAt T len m))) ∨ ∃ k b n1, RBody T len d' n' k (.good b n1) ∧ n' ≤ n1 ∧ Fails T S' n1 m := fun n' d' S' h => (sim j n' d' S' (by omega)).1
    have ihK : ∀ n' d' S', n < n' → Fails T (.blk d' :: S') n' m → RBlk T len d' n' (.bad (psAt T len m)) ∨ ∃ b n1, RBlk T len d' n' (.good b n1) ∧ n' < n1 ∧ Fails T S' n1 m := fun n' d' S' h => (sim j n' d' S' (by omega)).2.1
    have ihA : ∀ n' d' S', n < n' → Fails T (.alts d' :: S') n' m → (∃ k, RMore T len d' n' k (.bad (psAt T len m))) ∨ ∃ k bs n1, RMore T len d' n' k (.good bs n1) ∧ n' ≤ n1 ∧ Fails T S' n1 m := fun n' d' S' h => (sim j n' d' S' (by omega)).2.2
    -- what a step gives
    have step : ∀ d S, tkAt T n ∈ startSteps → Fails T (expand d (tkAt T n) ++ S) (n + 1) m → RStep T len d n (.bad (psAt T len m)) ∨ ∃ s n1, RStep T len d n (.good s n1) ∧ n < n1 ∧ Fails T S n1 m := by
      intro d S hs x
      rcases start_kind _ hs with h | h | h | h | h | h | h
      · rw [exp_word _ h] at x
        rcases Fails.wordS x with ⟨f, rfl⟩ | ⟨f, x⟩
        · exact .inl (.wordN h f)
        · rcases x.semi with ⟨g, rfl⟩ | ⟨g, x⟩
          · exact .inl (.wordE h f g)
          · exact .inr ⟨_, _, .word h f g, by omega, x⟩
      · rw [exp_cls _ h] at x
        rcases Fails.clsS x with ⟨f, rfl⟩ | ⟨f, x⟩
        · exact .inl (.clsN h f)
        · rcases x.semi with ⟨g, rfl⟩ | ⟨g, x⟩
          · exact .inl (.clsE h f g)
          · exact .inr ⟨_, _, .cls h f g, by omega, x⟩
      · rw [exp_bare _ h] at x
        rcases Fails.semi x with ⟨g, rfl⟩ | ⟨g, x⟩
        · exact .inl (.bareE h g)
        · exact .inr ⟨_, _, .bare h g, by omega, x⟩
      · have hn : tkAt T n ∈ nestedSteps := by rw [h]; decide
        rw [h, exp_loop] at x
        rcases ihK _ d S (by omega) x with r | ⟨b, n1, r, l, x⟩
        · exact .inl (.nest hn (by rw [h]; exact .loopE r))
        · exact .inr ⟨_, n1, .nest hn (by rw [h]; exact .loop r), by omega, x⟩
      · have hn : tkAt T n ∈ nestedSteps := by rw [h]; decide
        rw [h, exp_if] at x
        rcases Fails.ifW x with ⟨f, rfl⟩ | ⟨f, x⟩
        · exact .inl (.nest hn (by rw [h]; exact .cond0 f))
        · rcases ihK _ d _ (by omega) x with r | ⟨b, n1, r, l, x⟩
          · exact .inl (.nest hn (by rw [h]; exact .cond1 f r))
          · rcases x.elseB with ⟨g, rfl⟩ | ⟨g, x⟩
            · exact .inl (.nest hn (by rw [h]; exact .cond2 f r g))
            · rcases ihK _ d _ (by omega) x with r2 | ⟨c, n2, r2, l2, x⟩
              · exact .inl (.nest hn (by rw [h]; exact .cond3 f r g r2))
              · exact .inr ⟨_, n2, .nest hn (by rw [h]; exact .cond f r g r2), by omega, x⟩
      · have hn : tkAt T n ∈ nestedSteps := by rw [h]; decide
        rw [h, exp_try] at x
        rcases ihK _ d _ (by omega) x with r | ⟨b, n1, r, l, x⟩
        · exact .inl (.nest hn (by rw [h]; exact .tri1 r))
        · rcases Fails.catchB x with ⟨g, rfl⟩ | ⟨g, x⟩
          · exact .inl (.nest hn (by rw [h]; exact .tri2 r g))
          · rcases ihK _ d _ (by omega) x with r2 | ⟨c, n2, r2, l2, x⟩
            · exact .inl (.nest hn (by rw [h]; exact .tri3 r g r2))
            · exact .inr ⟨_, n2, .nest hn (by rw [h]; exact .tri r g r2), by omega, x⟩
      · have hn : tkAt T n ∈ nestedSteps := by rw [h]; decide
        rw [h, exp_either] at x
        rcases ihK _ d _ (by omega) x with r | ⟨b, n1, r, l, x⟩
        · exact .inl (.nest hn (by rw [h]; exact .altE (.first r)))
        · rcases Fails.orB x with ⟨g, rfl⟩ | ⟨g, x⟩
          · exact .inl (.nest hn (by rw [h]; exact .altE (.noor r g)))
          · rcases ihK _ d _ (by omega) x with r2 | ⟨c, n2, r2, l2, x⟩
            · exact .inl (.nest hn (by rw [h]; exact .altE (.more (k := 0) r g (.fail g r2))))
            · rcases ihA _ d _ (by omega) x with ⟨k, r3⟩ | ⟨k, bs, n3, r3, l3, x⟩
              · exact .inl (.nest hn (by rw [h]; exact .altE (.more r g (.late g r2 (by omega) r3))))
              · exact .inr ⟨_, n3, .nest hn (by rw [h]; exact .alt (.ok r g (.next g r2 (by omega) r3))), by omega, x⟩
    refine ⟨fun x => ?_, fun x => ?_, fun x => ?_⟩
    · rcases x.body with ⟨h, x⟩ | ⟨h, x⟩
      · exact .inr ⟨0, _, n, .stop h, by omega, x⟩
      · rcases step d _ h x with r | ⟨s, n1, r, l, x⟩
        · exact .inl ⟨1, .fail h r⟩
        · rcases ihB _ d _ (by omega) x with ⟨k, r2⟩ | ⟨k, b, n2, r2, l2, x⟩
          · exact .inl ⟨k + 1, .late h r l r2⟩
          · exact .inr ⟨k + 1, _, n2, .next h r l r2, by omega, x⟩
    · rcases x.blk with ⟨rfl, rfl⟩ | ⟨h1, h2, rfl⟩ | ⟨h1, h2, x⟩
      · exact .inl .deep
      · exact .inl (.opn h1 h2)
      · rcases ihB _ (d + 1) _ (by omega) x with ⟨k, r⟩ | ⟨k, b, n1, r, l, x⟩
        · exact .inl (.body h1 h2 r)
        · rcases x.close with ⟨g, rfl⟩ | ⟨g, x⟩
          · exact .inl (.cls h1 h2 r g)
          · exact .inr ⟨b, n1 + 1, .ok h1 h2 r g, by omega, x⟩
    · rcases Fails.alts x with ⟨h, x⟩ | ⟨h, x⟩
      · exact .inr ⟨0, _, n, .stop h, by omega, x⟩
      · rcases ihK _ d _ (by omega) x with r | ⟨b, n1, r, l, x⟩
        · exact .inl ⟨1, .fail h r⟩
        · rcases ihA _ d _ (by omega) x with ⟨k, r2⟩ | ⟨k, bs, n2, r2, l2, x⟩
          · exact .inl ⟨k + 1, .late h r (by omega) r2⟩
          · exact .inr ⟨k + 1, _, n2, .next h r (by omega) r2, by omega, x⟩
theorem reads_bad {z : Str} {m : Nat} (h : Fails (tokens z) [.body 0] 0 m) : Reads2 z (.bad (psAt (tokens z) z.length m)) := by
  rcases (sim (len := z.length) (m + 1) 0 0 [] (by omega)).1 h with ⟨k, r⟩ | ⟨k, b, n1, r, _, x⟩
  · exact .inl ⟨k, r⟩
  · cases x with
    | now h1 h2 =>
      refine .inr ⟨k, b, _, r, fun e => ?_, rfl⟩
      have := h2 e
      cases this
    | later h1 _ => cases h1
end Ef

/-! runs of the machine over the tokens of bodies -/
namespace Ef
open PySem PySem.Spec PyProof.Rows L2 Evl
def run (L : Nat) : List Str → List It → Option (List It)
  | [], S => some S
  | t :: l, S => (stp L t S).bind (run L l)
theorem run_app {L : Nat} : ∀ (l r : List Str) (S : List It), run L (l ++ r) S = (run L l S).bind (run L r)
  | [], r, S => rfl
  | t :: l, r, S => by
    rw [List.cons_append, run, run]
    cases h : stp L t S with
    | none => rfl
    | some S' => exact run_app l r S'
theorem run_cat {L : Nat} {l r : List Str} {S S1 S2 : List It} (h1 : run L l S = some S1) (h2 : run L r S1 = some S2) : run L (l ++ r) S = some S2 := by rw [run_app, h1]; exact h2
theorem run_cons {L : Nat} {t : Str} {l : List Str} {S S1 S2 : List It} (h1 : stp L t S = some S1) (h2 : run L l S1 = some S2) : run L (t :: l) S = some S2 := by rw [run, h1]; exact h2
theorem run_pre {L : Nat} {l r : List Str} {S S2 : List It} (h : run L (l ++ r) S = some S2) : ∃ S1, run L l S = some S1 ∧ run L r S1 = some S2 := by
  rw [run_app] at h
  cases q : run L l S with
  | none => rw [q] at h; cases h
  | some S1 => rw [q] at h; exact ⟨S1, rfl, h⟩
theorem fails_run {T : List (Int × Str)} {m : Nat} : ∀ (l : List Str) (n : Nat) (S S1 : List It), At T n l → run 6 l S = some S1 → Fails T S1 (n + l.length) m → Fails T S n m
  | [], n, S, S1, _, hr, x => by cases hr; exact x
  | t :: l, n, S, S1, ha, hr, x => by
    rw [run] at hr
    cases q : stp 6 t S with
    | none => rw [q] at hr; cases hr
    | some S' =>
      rw [q] at hr
      have e := ha.head
      refine .later (S' := S') (by rw [e]; exact q) (fails_run l (n + 1) S' S1 ha.tail hr ?_)
      rw [List.length_cons] at x
      rw [show n + 1 + l.length = n + (l.length + 1) by omega]
      exact x
/-- what a list of tokens is that the reader refuses at the n-th -/
structure Spo (ts : List Str) (n : Nat) : Prop where
  le : n ≤ ts.length
  rej : ∃ S1, run 6 (ts.take n) [.body 0] = some S1 ∧ stp 6 (ts.getD n "") S1 = none ∧ (ts.getD n "" = "" → S1.all It.eps = false)
theorem Spo.fails {T : List (Int × Str)} {ts : List Str} {n : Nat} (h : Spo ts n) (ht : T.map (·.2) = ts) : Fails T [.body 0] 0 n := by
  obtain ⟨hl, S1, h1, h2, h3⟩ := h
  have tk : ∀ i, tkAt T i = ts.getD i "" := fun i => by
    unfold tkAt
    rw [← ht, List.getD_eq_getElem?_getD, List.getElem?_map]
    cases T[i]? <;> rfl
  have hlen : (ts.take n).length = n := by rw [List.length_take]; omega
  refine fails_run (ts.take n) 0 _ S1 (fun i w e => ?_) h1 ?_
  · rw [Nat.zero_add, tk]
    have hi : i < n := by
      have := (List.getElem?_eq_some_iff.mp e).1
      omega
    rw [List.getElem?_take, if_pos hi] at e
    rw [List.getD_eq_getElem?_getD, e]; rfl
  · rw [hlen, Nat.zero_add]
    exact .now (by rw [tk]; exact h2) (by rw [tk]; exact h3)
theorem Spo.reads {z : Str} {ts : List Str} {n : Nat} (h : Spo ts n) (ht : tks z = ts) : Reads2 z (.bad (psAt (tokens z) z.length n)) := reads_bad (h.fails ht)
/-! ### tokens of bodies run -/
def Alt (d : Nat) (A : List It) : Prop := A = [] ∨ A = [.alts d]
theorem stp_alt {L d : Nat} {A S : List It} {t : Str} (hA : Alt d A) (ht : t ≠ "or") : stp L t (A ++ S) = stp L t S := by
  rcases hA with rfl | rfl
  · rfl
  · show stp L t (.alts d :: S) = _
    rw [stp, if_neg ht]
theorem stp_start {L d : Nat} {A S : List It} {t : Str} (hA : Alt d A) (ht : t ∈ startSteps) : stp L t (A ++ .body d :: S) = some (expand d t ++ .body d :: S) := by
  rw [stp_alt hA (start_out _ ht).2, stp, if_pos ht]
theorem run_blk {L d : Nat} {b : Bdy} {S : List It} (hb : ∀ S, ∃ A, Alt (d + 1) A ∧ run L b.toks (.body (d + 1) :: S) = some (A ++ .body (d + 1) :: S)) (hd : d < L) : run L (curl b.toks) (.blk d :: S) = some S := by
  unfold curl
  obtain ⟨A, hA, hr⟩ := hb (.close :: S)
  refine run_cons (by rw [stp, if_neg (by omega), if_pos rfl]) (run_cat hr ?_)
  rw [run, stp_alt hA (by decide), stp, if_neg (by decide), stp, if_pos rfl]
  rfl
mutual
theorem Stp.run : ∀ (L : Nat) (s : Stp) (d : Nat) (A S : List It), s.ok → s.dep + d ≤ L → Alt d A → ∃ A', Alt d A' ∧ run L s.toks (A ++ .body d :: S) = some (A' ++ .body d :: S)
  | L, .word p w, d, A, S, ok, hd, hA => by
    rw [Stp.ok] at ok
    rw [Stp.toks]
    refine ⟨[], .inl rfl, ?_⟩
    rcases ok with ⟨h1, h2⟩ | ⟨h1, h2⟩
    · refine run_cons (stp_start hA (start_word p h1)) ?_
      rw [exp_word _ h1]
      exact run_cons (S1 := .semi :: .body d :: S) (by show stp L w (.wordS :: _) = _; rw [stp, if_pos h2] <;> rfl) (run_cons (by rw [stp, if_pos rfl] <;> rfl) rfl)
    · refine run_cons (stp_start hA (start_class p h1)) ?_
      rw [exp_cls _ h1]
      exact run_cons (S1 := .semi :: .body d :: S) (by show stp L w (.clsS :: _) = _; rw [stp, if_pos h2] <;> rfl) (run_cons (by rw [stp, if_pos rfl] <;> rfl) rfl)
  | L, .bare p, d, A, S, ok, hd, hA => by
    rw [Stp.ok] at ok
    rw [Stp.toks]
    refine ⟨[], .inl rfl, run_cons (stp_start hA (start_bare p ok)) ?_⟩
    rw [exp_bare _ ok]
    exact run_cons (by show stp L ";" (.semi :: _) = _; rw [stp, if_pos rfl] <;> rfl) rfl
  | L, .loop b, d, A, S, ok, hd, hA => by
    rw [Stp.ok] at ok
    rw [Stp.dep] at hd
    rw [Stp.toks]
    refine ⟨[], .inl rfl, run_cons (stp_start hA (by decide)) ?_⟩
    rw [exp_loop]
    exact run_blk (fun S => Bdy.run L b (d + 1) [] S ok (by omega) (.inl rfl)) (by omega)
  | L, .cond w b c, d, A, S, ok, hd, hA => by
    rw [Stp.ok] at ok
    rw [Stp.dep] at hd
    rw [Stp.toks]
    refine ⟨[], .inl rfl, run_cons (stp_start hA (by decide)) ?_⟩
    rw [exp_if]
    refine run_cons (S1 := .blk d :: .elseB d :: .body d :: S) (by show stp L w (.ifW d :: _) = _; rw [stp, if_pos ok.1] <;> rfl) (run_cat (run_blk (fun S => Bdy.run L b (d + 1) [] S ok.2.1 (by omega) (.inl rfl)) (by omega)) (run_cons (by rw [stp, if_pos rfl] <;> rfl) (run_blk (fun S => Bdy.run L c (d + 1) [] S ok.2.2 (by omega) (.inl rfl)) (by omega))))
  | L, .tri b c, d, A, S, ok, hd, hA => by
    rw [Stp.ok] at ok
    rw [Stp.dep] at hd
    rw [Stp.toks]
    refine ⟨[], .inl rfl, run_cons (stp_start hA (by decide)) ?_⟩
    rw [exp_try]
    exact run_cat (run_blk (fun S => Bdy.run L b (d + 1) [] S ok.1 (by omega) (.inl rfl)) (by omega)) (run_cons (S1 := .blk d :: .body d :: S) (by show stp L "catch" (.catchB d :: _) = _; rw [stp, if_pos rfl] <;> rfl) (run_blk (fun S => Bdy.run L c (d + 1) [] S ok.2 (by omega) (.inl rfl)) (by omega)))
  | L, .alt .nil, d, A, S, ok, hd, hA => by
    rw [Stp.ok, Bds.count] at ok
    exact absurd ok.1 (by omega)
  | L, .alt (.cons b .nil), d, A, S, ok, hd, hA => by
    rw [Stp.ok, Bds.count, Bds.count] at ok
    exact absurd ok.1 (by omega)
  | L, .alt (.cons b (.cons c bs)), d, A, S, ok, hd, hA => by
    rw [Stp.ok, Bds.ok, Bds.ok] at ok
    rw [Stp.dep, Bds.dep, Bds.dep] at hd
    rw [Stp.toks, Bds.toks, Bds.toks]
    refine ⟨[.alts d], .inr rfl, run_cons (stp_start hA (by decide)) ?_⟩
    rw [exp_either]
    refine run_cat (run_blk (fun S => Bdy.run L b (d + 1) [] S ok.2.1 (by omega) (.inl rfl)) (by omega)) (run_cons (S1 := .blk d :: .alts d :: .body d :: S) (by show stp L "or" (.orB d :: _) = _; rw [stp, if_pos rfl] <;> rfl) (run_cat (run_blk (fun S => Bdy.run L c (d + 1) [] S ok.2.2.1 (by omega) (.inl rfl)) (by omega)) ?_))
    exact Bds.run L bs d (.body d :: S) ok.2.2.2 (by omega)
theorem Bdy.run : ∀ (L : Nat) (b : Bdy) (d : Nat) (A S : List It), b.ok → b.dep + d ≤ L → Alt d A → ∃ A', Alt d A' ∧ run L b.toks (A ++ .body d :: S) = some (A' ++ .body d :: S)
  | L, .nil, d, A, S, ok, hd, hA => ⟨A, hA, by rw [Bdy.toks]; rfl⟩
  | L, .cons s b, d, A, S, ok, hd, hA => by
    rw [Bdy.ok] at ok
    rw [Bdy.dep] at hd
    rw [Bdy.toks]
    obtain ⟨A1, h1, r1⟩ := Stp.run L s d A S ok.1 (by omega) hA
    obtain ⟨A2, h2, r2⟩ := Bdy.run L b d A1 S ok.2 (by omega) h1
    exact ⟨A2, h2, run_cat r1 r2⟩
theorem Bds.run : ∀ (L : Nat) (bs : Bds) (d : Nat) (S : List It), bs.ok → bs.dep + 1 + d ≤ L → run L (bs.toks "or") (.alts d :: S) = some (.alts d :: S)
  | L, .nil, d, S, ok, hd => by rw [Bds.toks]; rfl
  | L, .cons b bs, d, S, ok, hd => by
    rw [Bds.ok] at ok
    rw [Bds.dep] at hd
    rw [Bds.toks]
    exact run_cons (by rw [stp, if_pos rfl]) (run_cat (run_blk (fun S => Bdy.run L b (d + 1) [] S ok.1 (by omega) (.inl rfl)) (by omega)) (Bds.run L bs d S ok.2 (by omega)))
end
/-! ### rejections -/
def marks : List Str := [";", "{", "}", "else", "catch", "or"]
/-- a token that never fits -/
def Odd (t : Str) : Prop := fitsW t = false ∧ fitsC t = false ∧ t ∉ startSteps ∧ t ∉ marks
theorem odd_rej {L : Nat} {t : Str} (h : Odd t) : ∀ S : List It, stp L t S = none
  | [] => rfl
  | i :: S => by
    obtain ⟨h1, h2, h3, h4⟩ := h
    have ih := odd_rej ⟨h1, h2, h3, h4⟩ S (L := L)
    have n : ∀ w ∈ marks, t ≠ w := fun w hw e => h4 (e ▸ hw)
    have c1 : ¬ fitsW t = true := by rw [h1]; decide
    have c2 : ¬ fitsC t = true := by rw [h2]; decide
    cases i with
    | semi => rw [stp, if_neg (n _ (by decide))]
    | wordS => rw [stp, if_neg c1]
    | clsS => rw [stp, if_neg c2]
    | ifW d => rw [stp, if_neg c1]
    | elseB d => rw [stp, if_neg (n _ (by decide))]
    | catchB d => rw [stp, if_neg (n _ (by decide))]
    | orB d => rw [stp, if_neg (n _ (by decide))]
    | alts d => rw [stp, if_neg (n _ (by decide)), ih]
    | blk d =>
      rw [stp]
      by_cases hd : d = L
      · rw [if_pos hd]
      · rw [if_neg hd, if_neg (n _ (by decide))]
    | close => rw [stp, if_neg (n _ (by decide))]
    | body d => rw [stp, if_neg h3, ih]
def odds : List Str := ["?", "7", "_", ".", "=", "~", "\t"]
theorem odds_odd : ∀ t ∈ odds, Odd t := by unfold Odd; decide +kernel
theorem eof_rej {L : Nat} (S : List It) : stp L "" S = none := odd_rej (by unfold Odd; decide +kernel) S
theorem take_len {α : Type} (l r : List α) : (l ++ r).take l.length = l := by simp
theorem getD_len {α : Type} (l r : List α) (x : α) : (l ++ r).getD l.length x = r.headD x := by
  rw [List.getD_eq_getElem?_getD, List.getElem?_append_right (Nat.le_refl _), Nat.sub_self]
  cases r <;> rfl
/-- a split of the tokens at which the next token is refused -/
theorem Spo.split {l r : List Str} {S1 : List It} (h1 : Ef.run 6 l [.body 0] = some S1) (h2 : stp 6 (r.headD "") S1 = none) (h3 : r.headD "" = "" → S1.all It.eps = false) : Spo (l ++ r) l.length :=
  ⟨by rw [List.length_append]; omega, S1, by rw [take_len]; exact h1, by rw [getD_len]; exact h2, by rw [getD_len]; exact h3⟩
theorem toks_run {b : Bdy} (ok : b.ok) (hd : b.dep ≤ 6) : ∃ A, Alt 0 A ∧ Ef.run 6 b.toks [.body 0] = some (A ++ [.body 0]) := Bdy.run 6 b 0 [] [] ok (by omega) (.inl rfl)
theorem spo_odd {b : Bdy} {l r : List Str} {t : Str} (ok : b.ok) (hd : b.dep ≤ 6) (e : b.toks = l ++ r) (ht : t ∈ odds) : Spo (l ++ t :: r) l.length := by
  obtain ⟨A, _, h⟩ := toks_run ok hd
  rw [e] at h
  obtain ⟨S1, h1, _⟩ := run_pre h
  exact .split h1 (odd_rej (odds_odd t ht) S1) fun q => by
    have q : t = "" := q
    subst q
    exact absurd ht (by decide)
def ends : List Str := ["}", ")", ";", ",", "{", "init", "else", "catch", "class", "a", "Aa"]
theorem ends_ok : ∀ t ∈ ends, t ∉ startSteps ∧ t ≠ "or" ∧ t ≠ "" := by decide +kernel
theorem spo_end {b : Bdy} {t : Str} (ok : b.ok) (hd : b.dep ≤ 6) (ht : t ∈ ends) : Spo (b.toks ++ [t]) b.toks.length := by
  obtain ⟨A, hA, h⟩ := toks_run ok hd
  obtain ⟨t1, t2, t3⟩ := ends_ok t ht
  exact .split h (by show stp 6 t _ = none; rw [stp_alt hA t2, stp, if_neg t1]; rfl) fun q => absurd q t3
/-! ### a wrong word -/
theorem stp_word {L : Nat} {w : Str} (hw : w ∈ wordSteps ∨ w = "if") : ∀ {S S' : List It}, stp L w S = some S' → ∃ S2, S' = .wordS :: S2 ∨ ∃ d, S' = .ifW d :: S2
  | [], S', h => by cases h
  | i :: S, S', h => by
    have hm : w ∈ startSteps ∧ fitsW w = false ∧ fitsC w = false ∧ w ∉ marks := by
      rcases hw with h | rfl
      · exact (by decide +kernel : ∀ w ∈ wordSteps, w ∈ startSteps ∧ fitsW w = false ∧ fitsC w = false ∧ w ∉ marks) w h
      · decide +kernel
    obtain ⟨h1, h2, h3, h4⟩ := hm
    have n : ∀ u ∈ marks, w ≠ u := fun u hu e => h4 (e ▸ hu)
    have c1 : ¬ fitsW w = true := by rw [h2]; decide
    have c2 : ¬ fitsC w = true := by rw [h3]; decide
    cases i with
    | semi => rw [stp, if_neg (n _ (by decide))] at h; cases h
    | wordS => rw [stp, if_neg c1] at h; cases h
    | clsS => rw [stp, if_neg c2] at h; cases h
    | ifW d => rw [stp, if_neg c1] at h; cases h
    | elseB d => rw [stp, if_neg (n _ (by decide))] at h; cases h
    | catchB d => rw [stp, if_neg (n _ (by decide))] at h; cases h
    | orB d => rw [stp, if_neg (n _ (by decide))] at h; cases h
    | alts d => rw [stp, if_neg (n _ (by decide))] at h; exact stp_word hw h
    | blk d =>
      rw [stp] at h
      by_cases hd : d = L
      · rw [if_pos hd] at h; cases h
      · rw [if_neg hd, if_neg (n _ (by decide))] at h; cases h
    | close => rw [stp, if_neg (n _ (by decide))] at h; cases h
    | body d =>
      rw [stp, if_pos h1] at h
      cases h
      rcases hw with hw | rfl
      · rw [exp_word _ hw]; exact ⟨_, .inl rfl⟩
      · rw [exp_if]; exact ⟨_, .inr ⟨d, rfl⟩⟩
theorem stp_class {L : Nat} {w : Str} (hw : w ∈ classSteps) : ∀ {S S' : List It}, stp L w S = some S' → ∃ S2, S' = .clsS :: S2
  | [], S', h => by cases h
  | i :: S, S', h => by
    obtain ⟨h1, h2, h3, h4⟩ := (by decide +kernel : ∀ w ∈ classSteps, w ∈ startSteps ∧ fitsW w = false ∧ fitsC w = false ∧ w ∉ marks) w hw
    have n : ∀ u ∈ marks, w ≠ u := fun u hu e => h4 (e ▸ hu)
    have c1 : ¬ fitsW w = true := by rw [h2]; decide
    have c2 : ¬ fitsC w = true := by rw [h3]; decide
    cases i with
    | semi => rw [stp, if_neg (n _ (by decide))] at h; cases h
    | wordS => rw [stp, if_neg c1] at h; cases h
    | clsS => rw [stp, if_neg c2] at h; cases h
    | ifW d => rw [stp, if_neg c1] at h; cases h
    | elseB d => rw [stp, if_neg (n _ (by decide))] at h; cases h
    | catchB d => rw [stp, if_neg (n _ (by decide))] at h; cases h
    | orB d => rw [stp, if_neg (n _ (by decide))] at h; cases h
    | alts d => rw [stp, if_neg (n _ (by decide))] at h; exact stp_class hw h
    | blk d =>
      rw [stp] at h
      by_cases hd : d = L
      · rw [if_pos hd] at h; cases h
      · rw [if_neg hd, if_neg (n _ (by decide))] at h; cases h
    | close => rw [stp, if_neg (n _ (by decide))] at h; cases h
    | body d =>
      rw [stp, if_pos h1] at h
      cases h
      rw [exp_cls _ hw]; exact ⟨_, rfl⟩
def wrongW : List Str := ["value", ";", "{", "aB", "super", "aqzmaqzma", "Aaaa"]
def wrongC : List Str := ["value", ";", "{", "aB", "a", "aqzm", "ABc"]
theorem wrongW_ok : ∀ t ∈ wrongW, fitsW t = false ∧ t ≠ "" := by decide +kernel
theorem wrongC_ok : ∀ t ∈ wrongC, fitsC t = false ∧ t ≠ "" := by decide +kernel
theorem spo_word {b : Bdy} {l r : List Str} {w u t : Str} (ok : b.ok) (hd : b.dep ≤ 6) (e : b.toks = l ++ w :: u :: r) (hw : w ∈ wordSteps ∨ w = "if") (ht : t ∈ wrongW) : Spo (l ++ [w] ++ t :: r) (l.length + 1) := by
  obtain ⟨A, _, h⟩ := toks_run ok hd
  rw [e, show l ++ w :: u :: r = (l ++ [w]) ++ u :: r by simp] at h
  obtain ⟨S1, h1, _⟩ := run_pre h
  obtain ⟨S0, h0, hs⟩ := run_pre h1
  have hs : (stp 6 w S0).bind (Ef.run 6 []) = some S1 := hs
  cases q : stp 6 w S0 with
  | none => rw [q] at hs; cases hs
  | some S' =>
    rw [q] at hs
    have hs : some S' = some S1 := hs
    cases hs
    obtain ⟨f, t3⟩ := wrongW_ok t ht
    have := Spo.split (l := l ++ [w]) (r := t :: r) h1 (by
      show stp 6 t S1 = none
      obtain ⟨S2, rfl | ⟨d, rfl⟩⟩ := stp_word hw q
      · rw [stp, if_neg (by rw [f]; decide)]
      · rw [stp, if_neg (by rw [f]; decide)]) fun q => absurd q t3
    rw [List.length_append] at this
    exact this
theorem spo_class {b : Bdy} {l r : List Str} {w u t : Str} (ok : b.ok) (hd : b.dep ≤ 6) (e : b.toks = l ++ w :: u :: r) (hw : w ∈ classSteps) (ht : t ∈ wrongC) : Spo (l ++ [w] ++ t :: r) (l.length + 1) := by
  obtain ⟨A, _, h⟩ := toks_run ok hd
  rw [e, show l ++ w :: u :: r = (l ++ [w]) ++ u :: r by simp] at h
  obtain ⟨S1, h1, _⟩ := run_pre h
  obtain ⟨S0, h0, hs⟩ := run_pre h1
  have hs : (stp 6 w S0).bind (Ef.run 6 []) = some S1 := hs
  cases q : stp 6 w S0 with
  | none => rw [q] at hs; cases hs
  | some S' =>
    rw [q] at hs
    have hs : some S' = some S1 := hs
    cases hs
    obtain ⟨f, t3⟩ := wrongC_ok t ht
    have := Spo.split (l := l ++ [w]) (r := t :: r) h1 (by
      show stp 6 t S1 = none
      obtain ⟨S2, rfl⟩ := stp_class hw q
      rw [stp, if_neg (by rw [f]; decide)]) fun q => absurd q t3
    rw [List.length_append] at this
    exact this
end Ef

/-! braces: balance, levels, open prefixes, too deep blocks -/
namespace Ef
open PySem PySem.Spec PyProof.Rows L2 Evl
def brc (t : Str) : Int := if t = "{" then 1 else if t = "}" then -1 else 0
def bal : List Str → Int
  | [] => 0
  | t :: l => brc t + bal l
theorem bal_app : ∀ l r : List Str, bal (l ++ r) = bal l + bal r
  | [], r => by simp [bal]
  | t :: l, r => by rw [List.cons_append, bal, bal, bal_app l r]; omega
theorem bal_count : ∀ l : List Str, bal l = ((l.count ("{" : Str) : Nat) : Int) - ((l.count ("}" : Str) : Nat) : Int)
  | [] => rfl
  | t :: l => by
    have ih := bal_count l
    rw [bal, ih, List.count_cons, List.count_cons]
    unfold brc
    by_cases h1 : t = "{"
    · subst h1
      rw [if_pos rfl, if_pos (by decide), if_neg (by decide)]; omega
    · by_cases h2 : t = "}"
      · subst h2
        rw [if_neg (by decide), if_pos rfl, if_neg (by decide), if_pos (by decide)]; omega
      · rw [if_neg h1, if_neg h2, if_neg (by simpa using h1), if_neg (by simpa using h2)]; omega
theorem brc0 {t : Str} (h1 : t ≠ "{") (h2 : t ≠ "}") : brc t = 0 := by unfold brc; rw [if_neg h1, if_neg h2]
theorem brc_word {t : Str} (h : fitsW t = true) : brc t = 0 := brc0 (fun e => by subst e; exact absurd h (by decide)) (fun e => by subst e; exact absurd h (by decide))
theorem brc_cls {t : Str} (h : fitsC t = true) : brc t = 0 := brc0 (fun e => by subst e; exact absurd h (by decide)) (fun e => by subst e; exact absurd h (by decide))
theorem brc_start : ∀ t ∈ startSteps, brc t = 0 := by decide
/-- balanced: as many opened as closed, never more closed -/
def Bal (l : List Str) : Prop := bal l = 0 ∧ ∀ l1 l2, l = l1 ++ l2 → 0 ≤ bal l1
theorem Bal.nil : Bal [] := ⟨rfl, fun l1 l2 e => by
  have : l1 = [] := (List.append_eq_nil_iff.mp e.symm).1
  subst this; decide⟩
theorem Bal.app {l r : List Str} (h1 : Bal l) (h2 : Bal r) : Bal (l ++ r) := ⟨by rw [bal_app, h1.1, h2.1]; rfl, fun l1 l2 e => by
  rcases List.append_eq_append_iff.mp e with ⟨a, e1, e2⟩ | ⟨c, e1, e2⟩
  · subst e1
    rw [bal_app, h1.1]
    have := h2.2 a l2 e2
    omega
  · exact h1.2 l1 c e1⟩
theorem Bal.cons {t : Str} {l : List Str} (h : brc t = 0) (h2 : Bal l) : Bal (t :: l) := ⟨by rw [bal, h, h2.1]; rfl, fun l1 l2 e => by
  cases l1 with
  | nil => exact Int.le_refl _
  | cons u l1 =>
    rw [List.cons_append] at e
    injection e with e1 e2
    subst e1
    have := h2.2 l1 l2 e2
    rw [bal, h]; omega⟩
theorem bal_open (l : List Str) : bal ("{" :: l) = 1 + bal l := rfl
theorem bal_close : bal ["}"] = -1 := by decide
theorem curl_split {l l1 l2 : List Str} (e : curl l = l1 ++ l2) : l1 = [] ∨ (∃ a c, l = a ++ c ∧ l1 = ("{" : Str) :: a ∧ l2 = c ++ [("}" : Str)]) ∨ (l1 = curl l ∧ l2 = []) := by
  unfold curl at e ⊢
  cases l1 with
  | nil => exact .inl rfl
  | cons u l1 =>
    rw [List.cons_append] at e
    injection e with e1 e2
    subst e1
    right
    rcases List.append_eq_append_iff.mp e2 with ⟨a, e3, e4⟩ | ⟨c, e3, e4⟩
    · cases a with
      | nil =>
        rw [List.append_nil] at e3
        subst e3
        exact .inl ⟨l1, [], by simp, rfl, by rw [List.nil_append] at e4; rw [← e4]; rfl⟩
      | cons v a =>
        rw [List.cons_append] at e4
        injection e4 with e5 e6
        have e6 := List.append_eq_nil_iff.mp e6.symm
        obtain ⟨rfl, rfl⟩ := e6
        subst e5 e3
        exact .inr ⟨rfl, rfl⟩
    · exact .inl ⟨l1, c, e3, rfl, e4⟩
theorem Bal.curl {l : List Str} (h : Bal l) : Bal (curl l) := by
  have e0 : bal (Ef.curl l) = 0 := by unfold Ef.curl; rw [bal_open, bal_app, h.1, bal_close]; rfl
  refine ⟨e0, fun l1 l2 e => ?_⟩
  rcases curl_split e with rfl | ⟨a, c, rfl, rfl, rfl⟩ | ⟨rfl, rfl⟩
  · decide
  · have := h.2 a c rfl
    rw [bal_open]; omega
  · rw [e0]; decide
mutual
theorem Stp.bal : ∀ s : Stp, s.ok → Bal s.toks
  | .word p w, ok => by
    rw [Stp.ok] at ok
    rw [Stp.toks]
    rcases ok with ⟨h1, h2⟩ | ⟨h1, h2⟩
    · exact .cons (brc_start _ (start_word p h1)) (.cons (brc_word h2) (.cons (by decide) .nil))
    · exact .cons (brc_start _ (start_class p h1)) (.cons (brc_cls h2) (.cons (by decide) .nil))
  | .bare p, ok => by
    rw [Stp.ok] at ok
    rw [Stp.toks]
    exact .cons (brc_start _ (start_bare p ok)) (.cons (by decide) .nil)
  | .loop b, ok => by
    rw [Stp.ok] at ok
    rw [Stp.toks]
    exact .cons (by decide) (Bdy.bal b ok).curl
  | .cond w b c, ok => by
    rw [Stp.ok] at ok
    rw [Stp.toks]
    exact .cons (by decide) (.cons (brc_word ok.1) ((Bdy.bal b ok.2.1).curl.app (.cons (by decide) (Bdy.bal c ok.2.2).curl)))
  | .tri b c, ok => by
    rw [Stp.ok] at ok
    rw [Stp.toks]
    exact .cons (by decide) ((Bdy.bal b ok.1).curl.app (.cons (by decide) (Bdy.bal c ok.2).curl))
  | .alt bs, ok => by
    rw [Stp.ok] at ok
    rw [Stp.toks]
    exact Bds.bal bs ok.2 "either" (by decide)
theorem Bdy.bal : ∀ b : Bdy, b.ok → Bal b.toks
  | .nil, ok => by rw [Bdy.toks]; exact .nil
  | .cons s b, ok => by
    rw [Bdy.ok] at ok
    rw [Bdy.toks]
    exact (Stp.bal s ok.1).app (Bdy.bal b ok.2)
theorem Bds.bal : ∀ bs : Bds, bs.ok → ∀ w : Str, brc w = 0 → Bal (bs.toks w)
  | .nil, ok, w, hw => by rw [Bds.toks]; exact .nil
  | .cons b bs, ok, w, hw => by
    rw [Bds.ok] at ok
    rw [Bds.toks]
    exact .cons hw ((Bdy.bal b ok.1).curl.app (Bds.bal bs ok.2 "or" (by decide)))
end
/-! ### some prefix lies as deep as the body is -/
def Reach (l : List Str) (n : Int) : Prop := ∃ l1 l2, l = l1 ++ l2 ∧ bal l1 = n
theorem Reach.left {l r : List Str} {n : Int} (h : Reach l n) : Reach (l ++ r) n := by
  obtain ⟨l1, l2, rfl, e⟩ := h
  exact ⟨l1, l2 ++ r, by simp, e⟩
theorem Reach.right {l r : List Str} {n : Int} (hl : bal l = 0) (h : Reach r n) : Reach (l ++ r) n := by
  obtain ⟨l1, l2, rfl, e⟩ := h
  exact ⟨l ++ l1, l2, by simp, by rw [bal_app, hl, e]; omega⟩
theorem Reach.cons {t : Str} {r : List Str} {n : Int} (hl : brc t = 0) (h : Reach r n) : Reach (t :: r) n := Reach.right (l := [t]) (by rw [bal, hl]; rfl) h
theorem Reach.curl {l : List Str} {n : Int} (h : Reach l n) : Reach (curl l) (n + 1) := by
  obtain ⟨l1, l2, rfl, e⟩ := h
  exact ⟨("{" : Str) :: l1, l2 ++ [("}" : Str)], by unfold Ef.curl; simp, by rw [bal_open, e]; omega⟩
theorem Reach.zero (l : List Str) : Reach l 0 := ⟨[], l, rfl, rfl⟩
mutual
theorem Stp.reach : ∀ s : Stp, s.ok → Reach s.toks s.dep
  | .word p w, ok => by rw [Stp.dep]; exact .zero _
  | .bare p, ok => by rw [Stp.dep]; exact .zero _
  | .loop b, ok => by
    rw [Stp.ok] at ok
    rw [Stp.toks, Stp.dep]
    exact .cons (by decide) (Bdy.reach b ok).curl
  | .cond w b c, ok => by
    rw [Stp.ok] at ok
    rw [Stp.toks, Stp.dep]
    refine .cons (by decide) (.cons (brc_word ok.1) ?_)
    have h1 := (Bdy.reach b ok.2.1).curl
    have h2 := (Bdy.reach c ok.2.2).curl
    by_cases h : c.dep ≤ b.dep
    · rw [Nat.max_eq_left h]; exact h1.left
    · rw [Nat.max_eq_right (by omega)]; exact .right (Bdy.bal b ok.2.1).curl.1 (.cons (by decide) h2)
  | .tri b c, ok => by
    rw [Stp.ok] at ok
    rw [Stp.toks, Stp.dep]
    refine .cons (by decide) ?_
    have h1 := (Bdy.reach b ok.1).curl
    have h2 := (Bdy.reach c ok.2).curl
    by_cases h : c.dep ≤ b.dep
    · rw [Nat.max_eq_left h]; exact h1.left
    · rw [Nat.max_eq_right (by omega)]; exact .right (Bdy.bal b ok.1).curl.1 (.cons (by decide) h2)
  | .alt .nil, ok => by
    rw [Stp.ok, Bds.count] at ok
    exact absurd ok.1 (by omega)
  | .alt (.cons b bs), ok => by
    rw [Stp.ok] at ok
    rw [Stp.toks, Stp.dep]
    exact Bds.reach (.cons b bs) ok.2 "either" (by decide) (fun e => nomatch e)
theorem Bdy.reach : ∀ b : Bdy, b.ok → Reach b.toks b.dep
  | .nil, ok => by rw [Bdy.dep]; exact .zero _
  | .cons s b, ok => by
    rw [Bdy.ok] at ok
    rw [Bdy.toks, Bdy.dep]
    by_cases h : b.dep ≤ s.dep
    · rw [Nat.max_eq_left h]; exact (Stp.reach s ok.1).left
    · rw [Nat.max_eq_right (by omega)]; exact .right (Stp.bal s ok.1).1 (Bdy.reach b ok.2)
theorem Bds.reach : ∀ bs : Bds, bs.ok → ∀ w : Str, brc w = 0 → bs ≠ .nil → Reach (bs.toks w) ((bs.dep + 1 : Nat) : Int)
  | .nil, ok, w, hw, hn => absurd rfl hn
  | .cons b .nil, ok, w, hw, hn => by
    rw [Bds.ok] at ok
    rw [Bds.toks, Bds.dep, Bds.dep, Nat.max_eq_left (by omega)]
    exact .cons hw (Bdy.reach b ok.1).curl.left
  | .cons b (.cons c bs), ok, w, hw, hn => by
    rw [Bds.ok] at ok
    rw [Bds.toks, Bds.dep]
    have h2 := Bds.reach (.cons c bs) ok.2 "or" (by decide) (fun e => nomatch e)
    by_cases h : (Bds.cons c bs).dep ≤ b.dep
    · rw [Nat.max_eq_left h]; exact .cons hw (Bdy.reach b ok.1).curl.left
    · rw [Nat.max_eq_right (by omega)]; exact .cons hw (.right (Bdy.bal b ok.1).curl.1 h2)
end
/-! ### the stack's levels -/
def closes : List It → Nat
  | [] => 0
  | .close :: S => closes S + 1
  | _ :: S => closes S
def lev : List It → Prop
  | [] => True
  | .ifW d :: S => d = closes S ∧ lev S
  | .elseB d :: S => d = closes S ∧ lev S
  | .catchB d :: S => d = closes S ∧ lev S
  | .orB d :: S => d = closes S ∧ lev S
  | .alts d :: S => d = closes S ∧ lev S
  | .blk d :: S => d = closes S ∧ lev S
  | .body d :: S => d = closes S ∧ lev S
  | _ :: S => lev S
theorem exp_lev {d : Nat} {t : Str} {S : List It} (h : d = closes S) (hl : lev S) : closes (expand d t ++ S) = closes S ∧ lev (expand d t ++ S) := by
  unfold expand
  repeat' split
  all_goals simp [closes, lev, hl, h]
theorem stp_lev {L : Nat} {t : Str} : ∀ {S S' : List It}, lev S → stp L t S = some S' → (closes S' : Int) = closes S + brc t ∧ lev S'
  | [], S', _, h => by cases h
  | .semi :: S, S', hl, h => by
    rw [stp] at h
    split at h
    · rename_i e; cases h; rw [e]; exact ⟨by rw [closes] <;> first | (show _ = _ + (0 : Int); omega) | (intros; simp_all), hl⟩
    · cases h
  | .wordS :: S, S', hl, h => by
    rw [stp] at h
    split at h
    · rename_i e; cases h; rw [brc_word e]; exact ⟨by simp [closes], hl⟩
    · cases h
  | .clsS :: S, S', hl, h => by
    rw [stp] at h
    split at h
    · rename_i e; cases h; rw [brc_cls e]; exact ⟨by simp [closes], hl⟩
    · cases h
  | .ifW d :: S, S', hl, h => by
    rw [stp] at h
    split at h
    · rename_i e; cases h; rw [brc_word e]; exact ⟨by simp [closes], by simp only [lev, closes] at hl ⊢; exact ⟨hl.1, hl⟩⟩
    · cases h
  | .elseB d :: S, S', hl, h => by
    rw [stp] at h
    split at h
    · rename_i e; cases h; rw [e, show brc "else" = 0 by decide]; exact ⟨by simp [closes], hl⟩
    · cases h
  | .catchB d :: S, S', hl, h => by
    rw [stp] at h
    split at h
    · rename_i e; cases h; rw [e, show brc "catch" = 0 by decide]; exact ⟨by simp [closes], hl⟩
    · cases h
  | .orB d :: S, S', hl, h => by
    rw [stp] at h
    split at h
    · rename_i e; cases h; rw [e, show brc "or" = 0 by decide]; exact ⟨by simp [closes], by simp only [lev, closes] at hl ⊢; exact ⟨hl.1, hl⟩⟩
    · cases h
  | .alts d :: S, S', hl, h => by
    rw [stp] at h
    split at h
    · rename_i e; cases h; rw [e, show brc "or" = 0 by decide]; exact ⟨by simp [closes], by simp only [lev, closes] at hl ⊢; exact ⟨hl.1, hl⟩⟩
    · have := stp_lev (S := S) (by simp only [lev] at hl; exact hl.2) h
      simpa [closes] using this
  | .blk d :: S, S', hl, h => by
    rw [stp] at h
    split at h
    · cases h
    · split at h
      · rename_i e; cases h; rw [e, show brc "{" = 1 by decide]; exact ⟨by simp [closes], by simp only [lev, closes] at hl ⊢; exact ⟨by omega, hl.2⟩⟩
      · cases h
  | .close :: S, S', hl, h => by
    rw [stp] at h
    split at h
    · rename_i e; cases h; rw [e, show brc "}" = -1 by decide]; exact ⟨by simp only [closes]; omega, by simp only [lev] at hl; exact hl⟩
    · cases h
  | .body d :: S, S', hl, h => by
    rw [stp] at h
    split at h
    · rename_i e
      cases h
      have z := exp_lev (d := d) (t := t) (S := .body d :: S) (by simp only [lev] at hl; simp only [closes]; exact hl.1) hl
      rw [brc_start _ e, z.1]
      exact ⟨by omega, z.2⟩
    · have := stp_lev (S := S) (by simp only [lev] at hl; exact hl.2) h
      simpa [closes] using this
theorem run_lev {L : Nat} : ∀ {l : List Str} {S S' : List It}, lev S → run L l S = some S' → (closes S' : Int) = closes S + bal l ∧ lev S'
  | [], S, S', hl, h => by cases h; exact ⟨by simp [bal], hl⟩
  | t :: l, S, S', hl, h => by
    rw [run] at h
    cases q : stp L t S with
    | none => rw [q] at h; cases h
    | some S1 =>
      rw [q] at h
      obtain ⟨h1, h2⟩ := stp_lev hl q
      obtain ⟨h3, h4⟩ := run_lev (l := l) h2 h
      exact ⟨by rw [bal]; omega, h4⟩
/-! ### an open prefix -/
theorem closes_eps : ∀ {S : List It}, 0 < closes S → S.all It.eps = false
  | [], h => absurd h (by decide)
  | i :: S, h => by
    rw [List.all_cons]
    cases i <;> simp only [closes] at h <;> simp only [It.eps, Bool.false_and, Bool.true_and] <;> exact closes_eps h
theorem exp_top {d : Nat} {t : Str} {S : List It} : (expand d t ++ S).all It.eps = false := by
  unfold expand
  repeat' split
  all_goals simp [It.eps]
theorem stp_top {L : Nat} {t : Str} (h1 : t ≠ ";") (h2 : t ≠ "}") : ∀ {S S' : List It}, stp L t S = some S' → S'.all It.eps = false
  | [], S', h => by cases h
  | i :: S, S', h => by
    cases i with
    | semi => rw [stp, if_neg h1] at h; cases h
    | close => rw [stp, if_neg h2] at h; cases h
    | wordS => rw [stp] at h; split at h <;> cases h; simp [It.eps]
    | clsS => rw [stp] at h; split at h <;> cases h; simp [It.eps]
    | ifW d => rw [stp] at h; split at h <;> cases h; simp [It.eps]
    | elseB d => rw [stp] at h; split at h <;> cases h; simp [It.eps]
    | catchB d => rw [stp] at h; split at h <;> cases h; simp [It.eps]
    | orB d => rw [stp] at h; split at h <;> cases h; simp [It.eps]
    | alts d =>
      rw [stp] at h
      split at h
      · cases h; simp [It.eps]
      · exact stp_top h1 h2 h
    | blk d =>
      rw [stp] at h
      split at h
      · cases h
      · split at h <;> cases h
        simp [It.eps]
    | body d =>
      rw [stp] at h
      split at h
      · cases h; exact exp_top
      · exact stp_top h1 h2 h
theorem lev0 : lev [.body 0] := by simp [lev, closes]
theorem spo_cut {b : Bdy} {l r : List Str} (ok : b.ok) (hd : b.dep ≤ 6) (e : b.toks = l ++ r) (ho : (∃ (l0 : List Str) (t : Str), l = l0 ++ [t] ∧ t ≠ "}" ∧ t ≠ ";") ∨ 0 < bal l) : Spo l l.length := by
  obtain ⟨A, _, h⟩ := toks_run ok hd
  rw [e] at h
  obtain ⟨S1, h1, _⟩ := run_pre h
  have := Spo.split (l := l) (r := []) h1 (eof_rej S1) fun _ => by
    rcases ho with ⟨l0, t, rfl, t1, t2⟩ | hb
    · obtain ⟨S0, h0, hs⟩ := run_pre h1
      have hs : (stp 6 t S0).bind (Ef.run 6 []) = some S1 := hs
      cases q : stp 6 t S0 with
      | none => rw [q] at hs; cases hs
      | some S' =>
        rw [q] at hs
        have hs : some S' = some S1 := hs
        cases hs
        exact stp_top t2 t1 q
    · have z := (run_lev lev0 h1).1
      refine closes_eps ?_
      have : closes [It.body 0] = 0 := by simp [closes]
      omega
  rw [List.append_nil] at this
  exact this
/-! ### too deep -/
theorem stp_six {t : Str} : ∀ {S S' : List It}, lev S → stp 100 t S = some S' → closes S' ≤ 6 → stp 6 t S = some S'
  | [], S', _, h, _ => by cases h
  | i :: S, S', hl, h, hc => by
    cases i with
    | semi => rw [stp] at h ⊢; exact h
    | close => rw [stp] at h ⊢; exact h
    | wordS => rw [stp] at h ⊢; exact h
    | clsS => rw [stp] at h ⊢; exact h
    | ifW d => rw [stp] at h ⊢; exact h
    | elseB d => rw [stp] at h ⊢; exact h
    | catchB d => rw [stp] at h ⊢; exact h
    | orB d => rw [stp] at h ⊢; exact h
    | alts d =>
      simp only [lev] at hl
      rw [stp] at h ⊢
      split
      · rename_i e; rw [if_pos e] at h; exact h
      · rename_i e; rw [if_neg e] at h; exact stp_six hl.2 h hc
    | blk d =>
      simp only [lev] at hl
      rw [stp] at h ⊢
      split at h
      · cases h
      · split at h
        · cases h
          simp only [closes] at hc
          rename_i e
          rw [if_neg (by omega), if_pos e]
        · cases h
    | body d =>
      simp only [lev] at hl
      rw [stp] at h ⊢
      split
      · rename_i e; rw [if_pos e] at h; exact h
      · rename_i e; rw [if_neg e] at h; exact stp_six hl.2 h hc
theorem stp_seven : ∀ {S S' : List It}, lev S → stp 100 "{" S = some S' → closes S' = 7 → stp 6 "{" S = none
  | [], S', _, h, _ => by cases h
  | i :: S, S', hl, h, hc => by
    cases i with
    | semi => rw [stp, if_neg (by decide)] at h; cases h
    | close => rw [stp, if_neg (by decide)] at h; cases h
    | wordS => rw [stp, if_neg (by decide)] at h; cases h
    | clsS => rw [stp, if_neg (by decide)] at h; cases h
    | ifW d => rw [stp, if_neg (by decide)] at h; cases h
    | elseB d => rw [stp, if_neg (by decide)] at h; cases h
    | catchB d => rw [stp, if_neg (by decide)] at h; cases h
    | orB d => rw [stp, if_neg (by decide)] at h; cases h
    | alts d =>
      simp only [lev] at hl
      rw [stp, if_neg (by decide)] at h ⊢
      exact stp_seven hl.2 h hc
    | blk d =>
      simp only [lev] at hl
      rw [stp] at h ⊢
      split at h
      · cases h
      · rw [if_pos rfl] at h
        cases h
        simp only [closes] at hc
        rw [if_pos (by omega)]
    | body d =>
      simp only [lev] at hl
      rw [stp, if_neg (by decide)] at h ⊢
      exact stp_seven hl.2 h hc
theorem run_six : ∀ {l : List Str} {S S' : List It}, lev S → run 100 l S = some S' → (∀ l1 l2, l = l1 ++ l2 → (closes S : Int) + bal l1 ≤ 6) → run 6 l S = some S'
  | [], S, S', _, h, _ => h
  | t :: l, S, S', hl, h, hb => by
    rw [run] at h ⊢
    cases q : stp 100 t S with
    | none => rw [q] at h; cases h
    | some S1 =>
      rw [q] at h
      obtain ⟨h1, h2⟩ := stp_lev hl q
      have hb1 := hb [t] l rfl
      rw [bal, bal] at hb1
      rw [stp_six hl q (by omega)]
      refine run_six (l := l) h2 h fun l1 l2 e => ?_
      have := hb (t :: l1) l2 (by rw [e]; rfl)
      rw [bal] at this
      omega
theorem spo_deep {b : Bdy} {l r : List Str} {t : Str} (ok : b.ok) (hd : b.dep ≤ 100) (e : b.toks = l ++ t :: r) (h7 : bal (l ++ [t]) = 7) (hb : ∀ l1 l2, l = l1 ++ l2 → bal l1 ≤ 6) : Spo b.toks l.length := by
  obtain ⟨A, _, h⟩ := Bdy.run 100 b 0 [] [] ok (by omega) (.inl rfl)
  rw [e] at h ⊢
  obtain ⟨S1, h1, h2⟩ := run_pre h
  rw [run] at h2
  have hc0 : closes [It.body 0] = 0 := by simp [closes]
  have l6 := hb l [] (by simp)
  rw [bal_app, bal, bal] at h7
  have ht : t = "{" := by
    unfold brc at h7
    split at h7
    · assumption
    · split at h7 <;> omega
  subst ht
  have z1 := run_lev lev0 h1
  cases q : stp 100 "{" S1 with
  | none => rw [q] at h2; cases h2
  | some S2 =>
    have z2 := stp_lev z1.2 q
    have hb1 : brc "{" = 1 := by decide
    refine .split (run_six lev0 h1 fun l1 l2 e => ?_) (stp_seven z1.2 q (by omega)) fun q => absurd (show ("{" : Str) = "" from q) (by decide)
    rw [hc0]
    have := hb l1 l2 e
    omega
end Ef

/-! an else, catch or or left out with its block -/
namespace Ef
open PySem PySem.Spec PyProof.Rows L2 Evl
def lo : List Str := ["else", "catch", "or"]
/-- a token of lo at a place, with the blocks around it -/
def Good (L : Nat) (fl : Bool) (S0 : List It) (l1 : List Str) (t : Str) (r : List Str) : Prop :=
  ∃ (c' c : Bdy) (l0 : List Str) (w : Str) (l2 : List Str) (Sx : List It), c'.ok ∧ c.ok ∧ l1 = l0 ++ w :: curl c'.toks ∧ r = curl c.toks ++ l2 ∧ run L l1 S0 = some Sx ∧ (l2 = [] → fl = true) ∧ brc w = 0 ∧
    ((t ≠ "or" ∨ w = "either") → (∀ u, u ≠ t → stp L u Sx = none) ∧ Sx.all It.eps = false) ∧ (t ≠ "or" → ∀ u ∈ lo, l2.head? ≠ some u)
def LO (L : Nat) (fl : Bool) (l : List Str) (S0 : List It) : Prop := ∀ l1 t r, l = l1 ++ t :: r → t ∈ lo → Good L fl S0 l1 t r
section
variable {L : Nat} {fl f2 : Bool} {l r l1 : List Str} {t : Str} {S0 S1 S2 : List It}
theorem Good.left (h : Good L fl S0 l1 t l) (hf : fl = true → ∀ u ∈ lo, r.head? ≠ some u) (hr : r = [] → fl = true → f2 = true) : Good L f2 S0 l1 t (l ++ r) := by
  obtain ⟨c', c, l0, w, l2, Sx, o1, o2, e1, e2, h1, h2, hw, h3, h4⟩ := h
  refine ⟨c', c, l0, w, l2 ++ r, Sx, o1, o2, e1, by rw [e2, List.append_assoc], h1, fun e => ?_, hw, h3, fun n u hu => ?_⟩
  · obtain ⟨e3, e4⟩ := List.append_eq_nil_iff.mp e
    exact hr e4 (h2 e3)
  · cases l2 with
    | nil => rw [List.nil_append]; exact hf (h2 rfl) u hu
    | cons a l2 => exact h4 n u hu
theorem Good.right (h : Good L fl S1 l1 t r) (hr : run L l S0 = some S1) : Good L fl S0 (l ++ l1) t r := by
  obtain ⟨c', c, l0, w, l2, Sx, o1, o2, e1, e2, h1, h2, h3⟩ := h
  exact ⟨c', c, l ++ l0, w, l2, Sx, o1, o2, by rw [e1, List.append_assoc], e2, run_cat hr h1, h2, h3⟩
theorem LO.app (h1 : LO L fl l S0) (hr : run L l S0 = some S1) (h2 : LO L f2 r S1) (hf : fl = true → ∀ u ∈ lo, r.head? ≠ some u) (he : r = [] → fl = true → f2 = true) : LO L f2 (l ++ r) S0 := fun l1 t q e ht => by
  rcases List.append_eq_append_iff.mp e with ⟨a, e1, e2⟩ | ⟨c, e1, e2⟩
  · subst e1
    exact (h2 a t q e2 ht).right hr
  · cases c with
    | nil =>
      rw [List.append_nil] at e1
      rw [List.nil_append] at e2
      subst e1
      have := (h2 [] t q e2.symm ht).right hr
      rw [List.append_nil] at this
      exact this
    | cons a c =>
      rw [List.cons_append] at e2
      injection e2 with e3 e4
      subst e3 e4
      exact (h1 l1 _ c e1 ht).left hf he
theorem LO.none (h : ∀ t ∈ l, t ∉ lo) : LO L fl l S0 := fun l1 t r e ht => absurd ht (h t (by rw [e]; simp))
/-- a token of lo between two parts -/
theorem LO.mid (h1 : LO L false l S0) (hm : Good L true S0 l t r) (hr : run L l S0 = some S1) (hs : stp L t S1 = some S2) (h2 : LO L fl r S2) : LO L true (l ++ t :: r) S0 := fun l1 u q e hu => by
  rcases List.append_eq_append_iff.mp e with ⟨a, e1, e2⟩ | ⟨c, e1, e2⟩
  · cases a with
    | nil =>
      rw [List.append_nil] at e1
      rw [List.nil_append] at e2
      injection e2 with e3 e4
      subst e1 e3 e4
      exact hm
    | cons b a =>
      rw [List.cons_append] at e2
      injection e2 with e3 e4
      subst e3 e1
      have g := (h2 a u q e4 hu).right (l := l ++ [t]) (S0 := S0) (run_cat hr (run_cons hs rfl))
      rw [List.append_assoc] at g
      obtain ⟨c', c, l0, w, l2, Sx, o1, o2, e1, e2, h1, h2, h3⟩ := g
      exact ⟨c', c, l0, w, l2, Sx, o1, o2, e1, e2, h1, fun _ => rfl, h3⟩
  · cases c with
    | nil =>
      rw [List.append_nil] at e1
      rw [List.nil_append] at e2
      injection e2 with e3 e4
      subst e1 e3 e4
      exact hm
    | cons b c =>
      rw [List.cons_append] at e2
      injection e2 with e3 e4
      subst e3 e4
      exact (h1 l1 u c e1 hu).left (fun z => Bool.noConfusion z) (fun _ z => Bool.noConfusion z)
theorem LO.curl {b : Bdy} {d : Nat} {S : List It} (h : LO L true b.toks (.body (d + 1) :: .close :: S)) (hr : ∃ A, Alt (d + 1) A ∧ run L b.toks (.body (d + 1) :: .close :: S) = some (A ++ .body (d + 1) :: .close :: S)) (hd : d < L) : LO L false (curl b.toks) (.blk d :: S) := by
  obtain ⟨A, hA, hr⟩ := hr
  have h0 : LO L false [("{" : Str)] (.blk d :: S) := .none (by decide)
  have h1 : LO L false (b.toks ++ [("}" : Str)]) (.body (d + 1) :: .close :: S) := h.app hr (.none (by decide)) (fun _ => by decide) (fun e => nomatch e)
  exact h0.app (r := b.toks ++ [("}" : Str)]) (run_cons (by rw [stp, if_neg (by omega), if_pos rfl]) rfl) h1 (fun z => Bool.noConfusion z) (fun _ z => Bool.noConfusion z)
theorem LO.weak (h : LO L false l S0) : LO L true l S0 := fun l1 t r e ht => by
  obtain ⟨c', c, l0, w, l2, Sx, o1, o2, e1, e2, h1, h2, h3⟩ := h l1 t r e ht
  exact ⟨c', c, l0, w, l2, Sx, o1, o2, e1, e2, h1, fun _ => rfl, h3⟩
/-- whatever follows -/
def LOx (L : Nat) (l : List Str) (S0 : List It) : Prop := ∀ l1 t r, l = l1 ++ t :: r → t ∈ lo → ∀ r', Good L true S0 l1 t (r ++ r')
theorem LO.x (h : LO L false l S0) : LOx L l S0 := fun l1 t r e ht r' => (h l1 t r e ht).left (fun z => Bool.noConfusion z) (fun _ z => Bool.noConfusion z)
theorem LOx.lo (h : LOx L l S0) : LO L true l S0 := fun l1 t r e ht => by
  have := h l1 t r e ht []
  rw [List.append_nil] at this
  exact this
end
theorem lo_start : ∀ u ∈ startSteps, u ∉ lo := by decide
theorem lo_word {w : Str} (h : fitsW w = true) : w ∉ lo := fun z => by
  have : ∀ w ∈ lo, fitsW w = false := by decide
  rw [this w z] at h; cases h
theorem lo_cls {w : Str} (h : fitsC w = true) : w ∉ lo := fun z => by
  have : ∀ w ∈ lo, fitsC w = false := by decide
  rw [this w z] at h; cases h
theorem brc_lo : ∀ u ∈ lo, brc u = 0 := by decide
/-- the head of the tokens of a body is no token of lo -/
theorem toks_head {b : Bdy} (ok : b.ok) : ∀ u ∈ lo, b.toks.head? ≠ some u := fun u hu e => by
  cases b with
  | nil => rw [Bdy.toks] at e; cases e
  | cons s b =>
    rw [Bdy.ok] at ok
    rw [Bdy.toks] at e
    have : ∃ x r, s.toks = x :: r ∧ x ∈ startSteps := by
      have ok := ok.1
      cases s with
      | word p w =>
        rw [Stp.ok] at ok
        rw [Stp.toks]
        rcases ok with h | h
        · exact ⟨_, _, rfl, start_word p h.1⟩
        · exact ⟨_, _, rfl, start_class p h.1⟩
      | bare p => rw [Stp.ok] at ok; rw [Stp.toks]; exact ⟨_, _, rfl, start_bare p ok⟩
      | loop b => rw [Stp.toks]; exact ⟨_, _, rfl, by decide⟩
      | cond w b c => rw [Stp.toks]; exact ⟨_, _, rfl, by decide⟩
      | tri b c => rw [Stp.toks]; exact ⟨_, _, rfl, by decide⟩
      | alt bs =>
        cases bs with
        | nil => rw [Stp.ok, Bds.count] at ok; exact absurd ok.1 (by omega)
        | cons b bs => rw [Stp.toks, Bds.toks]; exact ⟨_, _, rfl, by decide⟩
    obtain ⟨x, r, ex, hx⟩ := this
    rw [ex] at e
    have : x = u := Option.some.inj e
    subst this
    exact lo_start x hx hu
theorem rej_else {L d : Nat} {S : List It} : (∀ u : Str, u ≠ "else" → stp L u (.elseB d :: S) = none) ∧ (It.elseB d :: S).all It.eps = false := ⟨fun u hu => by rw [stp, if_neg hu], rfl⟩
theorem rej_catch {L d : Nat} {S : List It} : (∀ u : Str, u ≠ "catch" → stp L u (.catchB d :: S) = none) ∧ (It.catchB d :: S).all It.eps = false := ⟨fun u hu => by rw [stp, if_neg hu], rfl⟩
theorem rej_or {L d : Nat} {S : List It} : (∀ u : Str, u ≠ "or" → stp L u (.orB d :: S) = none) ∧ (It.orB d :: S).all It.eps = false := ⟨fun u hu => by rw [stp, if_neg hu], rfl⟩
theorem brc_of_word {w : Str} (h : fitsW w = true) : brc w = 0 := brc_word h
mutual
theorem Stp.lo : ∀ (L : Nat) (s : Stp) (d : Nat) (A S : List It), s.ok → s.dep + d ≤ L → Alt d A → LO L true s.toks (A ++ .body d :: S)
  | L, .word p w, d, A, S, ok, hd, hA => by
    rw [Stp.ok] at ok
    rw [Stp.toks]
    refine .none fun t ht => ?_
    simp only [List.mem_cons, List.not_mem_nil, or_false] at ht
    rcases ok with ⟨h1, h2⟩ | ⟨h1, h2⟩ <;> rcases ht with rfl | rfl | rfl
    · exact lo_start _ (start_word _ h1)
    · exact lo_word h2
    · decide
    · exact lo_start _ (start_class _ h1)
    · exact lo_cls h2
    · decide
  | L, .bare p, d, A, S, ok, hd, hA => by
    rw [Stp.ok] at ok
    rw [Stp.toks]
    refine .none fun t ht => ?_
    simp only [List.mem_cons, List.not_mem_nil, or_false] at ht
    rcases ht with rfl | rfl
    · exact lo_start _ (start_bare _ ok)
    · decide
  | L, .loop b, d, A, S, ok, hd, hA => by
    rw [Stp.ok] at ok
    rw [Stp.dep] at hd
    rw [Stp.toks]
    have hk : LO L false (curl b.toks) (.blk d :: .body d :: S) := .curl (Bdy.lo L b (d + 1) [] _ ok (by omega) (.inl rfl)) (Bdy.run L b (d + 1) [] _ ok (by omega) (.inl rfl)) (by omega)
    have h0 : LO L false [("loop" : Str)] (A ++ .body d :: S) := .none (by decide)
    exact (h0.app (r := curl b.toks) (run_cons (stp_start hA (by decide)) rfl) (by rw [exp_loop]; exact hk) (fun z => Bool.noConfusion z) (fun _ z => Bool.noConfusion z)).weak
  | L, .cond w b c, d, A, S, ok, hd, hA => by
    rw [Stp.ok] at ok
    rw [Stp.dep] at hd
    rw [Stp.toks]
    have hb : LO L false (curl b.toks) (.blk d :: .elseB d :: .body d :: S) := .curl (Bdy.lo L b (d + 1) [] _ ok.2.1 (by omega) (.inl rfl)) (Bdy.run L b (d + 1) [] _ ok.2.1 (by omega) (.inl rfl)) (by omega)
    have hc : LO L false (curl c.toks) (.blk d :: .body d :: S) := .curl (Bdy.lo L c (d + 1) [] _ ok.2.2 (by omega) (.inl rfl)) (Bdy.run L c (d + 1) [] _ ok.2.2 (by omega) (.inl rfl)) (by omega)
    have rb : run L (curl b.toks) (.blk d :: .elseB d :: .body d :: S) = some (.elseB d :: .body d :: S) := run_blk (fun S => Bdy.run L b (d + 1) [] S ok.2.1 (by omega) (.inl rfl)) (by omega)
    have h0 : LO L false [("if" : Str), w] (A ++ .body d :: S) := .none fun t ht => by
      simp only [List.mem_cons, List.not_mem_nil, or_false] at ht
      rcases ht with rfl | rfl
      · decide
      · exact lo_word ok.1
    have r0 : run L [("if" : Str), w] (A ++ .body d :: S) = some (.blk d :: .elseB d :: .body d :: S) := run_cons (stp_start hA (by decide)) (by rw [exp_if]; exact run_cons (by show stp L w (.ifW d :: _) = _; rw [stp, if_pos ok.1] <;> rfl) rfl)
    have h1 : LO L false ([("if" : Str), w] ++ curl b.toks) (A ++ .body d :: S) := h0.app r0 hb (fun z => Bool.noConfusion z) (fun _ z => Bool.noConfusion z)
    have r1 := run_cat r0 rb
    exact LO.mid (l := [("if" : Str), w] ++ curl b.toks) h1 ⟨b, c, [("if" : Str)], w, [], _, ok.2.1, ok.2.2, rfl, by rw [List.append_nil], r1, fun _ => rfl, brc_word ok.1, fun _ => rej_else, fun _ u _ e => nomatch e⟩ r1 (by rw [stp, if_pos rfl]) hc
  | L, .tri b c, d, A, S, ok, hd, hA => by
    rw [Stp.ok] at ok
    rw [Stp.dep] at hd
    rw [Stp.toks]
    have hb : LO L false (curl b.toks) (.blk d :: .catchB d :: .body d :: S) := .curl (Bdy.lo L b (d + 1) [] _ ok.1 (by omega) (.inl rfl)) (Bdy.run L b (d + 1) [] _ ok.1 (by omega) (.inl rfl)) (by omega)
    have hc : LO L false (curl c.toks) (.blk d :: .body d :: S) := .curl (Bdy.lo L c (d + 1) [] _ ok.2 (by omega) (.inl rfl)) (Bdy.run L c (d + 1) [] _ ok.2 (by omega) (.inl rfl)) (by omega)
    have rb : run L (curl b.toks) (.blk d :: .catchB d :: .body d :: S) = some (.catchB d :: .body d :: S) := run_blk (fun S => Bdy.run L b (d + 1) [] S ok.1 (by omega) (.inl rfl)) (by omega)
    have h0 : LO L false [("try" : Str)] (A ++ .body d :: S) := .none (by decide)
    have r0 : run L [("try" : Str)] (A ++ .body d :: S) = some (.blk d :: .catchB d :: .body d :: S) := run_cons (stp_start hA (by decide)) rfl
    have h1 : LO L false ([("try" : Str)] ++ curl b.toks) (A ++ .body d :: S) := h0.app r0 hb (fun z => Bool.noConfusion z) (fun _ z => Bool.noConfusion z)
    have r1 := run_cat r0 rb
    exact LO.mid (l := [("try" : Str)] ++ curl b.toks) h1 ⟨b, c, [], "try", [], _, ok.1, ok.2, rfl, by rw [List.append_nil], r1, fun _ => rfl, by decide, fun _ => rej_catch, fun _ u _ e => nomatch e⟩ r1 (by rw [stp, if_pos rfl]) hc
  | L, .alt .nil, d, A, S, ok, hd, hA => by
    rw [Stp.ok, Bds.count] at ok
    exact absurd ok.1 (by omega)
  | L, .alt (.cons b bs), d, A, S, ok, hd, hA => by
    rw [Stp.ok, Bds.ok] at ok
    rw [Stp.dep, Bds.dep] at hd
    rw [Stp.toks, Bds.toks]
    have hb : LO L false (curl b.toks) (.blk d :: .orB d :: .body d :: S) := .curl (Bdy.lo L b (d + 1) [] _ ok.2.1 (by omega) (.inl rfl)) (Bdy.run L b (d + 1) [] _ ok.2.1 (by omega) (.inl rfl)) (by omega)
    have rb : run L (curl b.toks) (.blk d :: .orB d :: .body d :: S) = some (.orB d :: .body d :: S) := run_blk (fun S => Bdy.run L b (d + 1) [] S ok.2.1 (by omega) (.inl rfl)) (by omega)
    have h0 : LO L false [("either" : Str)] (A ++ .body d :: S) := .none (by decide)
    have r0 : run L [("either" : Str)] (A ++ .body d :: S) = some (.blk d :: .orB d :: .body d :: S) := run_cons (stp_start hA (by decide)) rfl
    have h1 : LO L false ([("either" : Str)] ++ curl b.toks) (A ++ .body d :: S) := h0.app r0 hb (fun z => Bool.noConfusion z) (fun _ z => Bool.noConfusion z)
    have r1 := run_cat r0 rb
    exact (Bds.lo L bs d (A ++ .body d :: S) (.body d :: S) ok.2.2 (by omega) ([("either" : Str)] ++ curl b.toks) [] "either" b (.orB d) rfl ok.2.1 h1.x r1 (by decide) (fun _ => rej_or) (by rw [stp, if_pos rfl])).lo
theorem Bdy.lo : ∀ (L : Nat) (b : Bdy) (d : Nat) (A S : List It), b.ok → b.dep + d ≤ L → Alt d A → LO L true b.toks (A ++ .body d :: S)
  | L, .nil, d, A, S, ok, hd, hA => by rw [Bdy.toks]; exact .none (fun _ h => nomatch h)
  | L, .cons s b, d, A, S, ok, hd, hA => by
    rw [Bdy.ok] at ok
    rw [Bdy.dep] at hd
    rw [Bdy.toks]
    obtain ⟨A1, h1, r1⟩ := Stp.run L s d A S ok.1 (by omega) hA
    exact (Stp.lo L s d A S ok.1 (by omega) hA).app r1 (Bdy.lo L b d A1 S ok.2 (by omega) h1) (fun _ => toks_head ok.2) (fun _ _ => rfl)
theorem Bds.lo : ∀ (L : Nat) (bs : Bds) (d : Nat) (S0 S : List It), bs.ok → bs.dep + 1 + d ≤ L → ∀ (l l0 : List Str) (w : Str) (c' : Bdy) (i : It), l = l0 ++ w :: curl c'.toks → c'.ok → LOx L l S0 → run L l S0 = some (i :: S) → brc w = 0 →
    (w = "either" → (∀ u : Str, u ≠ "or" → stp L u (i :: S) = none) ∧ (i :: S).all It.eps = false) → stp L "or" (i :: S) = some (.blk d :: .alts d :: S) → LOx L (l ++ bs.toks "or") S0
  | L, .nil, d, S0, S, ok, hd, l, l0, w, c', i, e, oc, h1, r1, hw, hj, hs => by rw [Bds.toks, List.append_nil]; exact h1
  | L, .cons b bs, d, S0, S, ok, hd, l, l0, w, c', i, e, oc, h1, r1, hw, hj, hs => by
    rw [Bds.ok] at ok
    rw [Bds.dep] at hd
    rw [Bds.toks]
    have hb : LO L false (curl b.toks) (.blk d :: .alts d :: S) := .curl (Bdy.lo L b (d + 1) [] _ ok.1 (by omega) (.inl rfl)) (Bdy.run L b (d + 1) [] _ ok.1 (by omega) (.inl rfl)) (by omega)
    have rb : run L (curl b.toks) (.blk d :: .alts d :: S) = some (.alts d :: S) := run_blk (fun S => Bdy.run L b (d + 1) [] S ok.1 (by omega) (.inl rfl)) (by omega)
    have r2 : run L (l ++ ("or" : Str) :: curl b.toks) S0 = some (.alts d :: S) := run_cat r1 (run_cons hs rb)
    have g : ∀ l2 : List Str, Good L true S0 l "or" (curl b.toks ++ l2) := fun l2 => ⟨c', b, l0, w, l2, _, oc, ok.1, e, rfl, r1, fun _ => rfl, hw, fun z => hj (z.resolve_left fun q => q rfl), fun q => absurd rfl q⟩
    have h3 : LOx L (l ++ ("or" : Str) :: curl b.toks) S0 := fun l1 t r q ht r' => by
      rcases List.append_eq_append_iff.mp q with ⟨a, e1, e2⟩ | ⟨a, e1, e2⟩
      · cases a with
        | nil =>
          rw [List.append_nil] at e1
          rw [List.nil_append] at e2
          injection e2 with e3 e4
          subst e1 e3 e4
          exact g _
        | cons x a =>
          rw [List.cons_append] at e2
          injection e2 with e3 e4
          subst e3 e1
          have z := (hb a t r e4 ht).right (l := l ++ [("or" : Str)]) (S0 := S0) (run_cat r1 (run_cons hs rfl))
          rw [List.append_assoc] at z
          exact z.left (fun z => Bool.noConfusion z) (fun _ z => Bool.noConfusion z)
      · cases a with
        | nil =>
          rw [List.append_nil] at e1
          rw [List.nil_append] at e2
          injection e2 with e3 e4
          subst e1 e3 e4
          exact g _
        | cons x a =>
          rw [List.cons_append] at e2
          injection e2 with e3 e4
          subst e3 e4
          have z := h1 l1 t a e1 ht (("or" : Str) :: curl b.toks ++ r')
          rw [← List.append_assoc] at z
          exact z
    rw [show l ++ ("or" : Str) :: (curl b.toks ++ bs.toks "or") = (l ++ ("or" : Str) :: curl b.toks) ++ bs.toks "or" by simp]
    exact Bds.lo L bs d S0 S ok.2 (by omega) (l ++ ("or" : Str) :: curl b.toks) l "or" b (.alts d) rfl ok.1 h3 r2 (by decide) (fun z => absurd z (by decide)) (by rw [stp, if_pos rfl])
end
theorem good_of {b : Bdy} {l1 r : List Str} {t : Str} (ok : b.ok) (hd : b.dep ≤ 6) (e : b.toks = l1 ++ t :: r) (ht : t ∈ lo) : Good 6 true [.body 0] l1 t r := Bdy.lo 6 b 0 [] [] ok (by omega) (.inl rfl) l1 t r e ht
/-- the tokens with such a token and its block left out: refused there -/
theorem spo_left {l1 l2 : List Str} {t w : Str} {Sx : List It} (ht : t ∈ lo) (h1 : Ef.run 6 l1 [.body 0] = some Sx) (h3 : (t ≠ "or" ∨ w = "either") → (∀ u, u ≠ t → stp 6 u Sx = none) ∧ Sx.all It.eps = false) (h4 : t ≠ "or" → ∀ u ∈ lo, l2.head? ≠ some u)
    (hc : t ≠ "or" ∨ (w = "either" ∧ l2.head? ≠ some "or")) : Spo (l1 ++ l2) l1.length := by
  obtain ⟨z1, z2⟩ := h3 (hc.imp_right And.left)
  refine .split h1 (z1 _ fun e => ?_) fun _ => z2
  cases l2 with
  | nil => exact absurd (show ("" : Str) ∈ lo from (show ("" : Str) = t from e) ▸ ht) (by decide)
  | cons v l2 =>
    have e : v = t := e
    subst e
    rcases hc with h | h
    · exact h4 h v ht rfl
    · by_cases hv : v = "or"
      · subst hv; exact h.2 rfl
      · exact h4 hv v ht rfl
/-! ### scans for the other end of a block -/
/-- a list of tokens that comes to balance at its last one and not before -/
def Scan (q : List Str) : Prop := q ≠ [] ∧ bal q = 0 ∧ ∀ p r, q = p ++ r → p ≠ [] → r ≠ [] → bal p ≠ 0
theorem scan_fwd {c : Bdy} (ok : c.ok) : Scan (curl c.toks) := by
  have hb := Bdy.bal c ok
  refine ⟨fun e => (by unfold curl at e; cases e), hb.curl.1, fun p r e hp hr => ?_⟩
  rcases curl_split e with rfl | ⟨a, d, e1, rfl, rfl⟩ | ⟨rfl, rfl⟩
  · exact absurd rfl hp
  · have := hb.2 a d e1
    rw [bal_open]; omega
  · exact absurd rfl hr
theorem bal_rev : ∀ l : List Str, bal l.reverse = bal l
  | [] => rfl
  | t :: l => by rw [List.reverse_cons, bal_app, bal_rev l, bal, bal, bal]; omega
theorem scan_back {c : Bdy} (ok : c.ok) : Scan (curl c.toks).reverse := by
  have hb := Bdy.bal c ok
  refine ⟨fun e => (by
    have := List.reverse_eq_nil_iff.mp e
    unfold curl at this; cases this), (by rw [bal_rev]; exact hb.curl.1), fun p r e hp hr => ?_⟩
  have e : curl c.toks = r.reverse ++ p.reverse := by rw [← List.reverse_append, ← e, List.reverse_reverse]
  rw [← bal_rev]
  rcases curl_split e with h | ⟨a, d, e1, e2, e3⟩ | ⟨h1, h2⟩
  · exact absurd (List.reverse_eq_nil_iff.mp h) hr
  · have := hb.2 a d e1
    have z := hb.1
    rw [e1, bal_app] at z
    rw [e3, bal_app, bal_close]; omega
  · exact absurd (List.reverse_eq_nil_iff.mp h2) hp
end Ef

/-! promises of k03's own defs -/
namespace Ef
open PySem PySem.Spec PyProof.Rows L2 Evl
/-- a value that is no text -/
def NoStr (K : PySem.W.Frag) (H : Hp) (v : V) : Prop := ∃ tv : Value, (∀ H1, Evl.Ex H H1 → TyX K H1 v tv) ∧ PySem.W.kitOne K tv (.type "str") = some false
def sp_read_steps2 (K : PySem.W.Frag) : Sp := fun vs H Q E => sp_read_steps K vs H Q E ∨ ∃ v, vs = [v] ∧ NoStr K H v ∧ ∀ H1 d, Ex H H1 → H1 d = none → E (.ref (He.ga K "BadText")) (some d) (upd H1 d (.xd [("at", .int (-1))]))
def sp_at (K : PySem.W.Frag) : Sp := fun vs H Q _ => (∃ (z : Str) (p : Int), vs = [.str z] ∧ z.length ≤ 100000 ∧ Reads2 z (.bad p) ∧ ∀ H', Ex H H' → Q (.int p) H') ∨ ∃ v, vs = [v] ∧ NoStr K H v ∧ ∀ H', Ex H H' → Q (.int (-1)) H'
def isOpen (ts : List Str) : Bool := !ts.isEmpty && (!decide (ts.getLastD "" ∈ [("}" : Str), ";"]) || decide (ts.count ("}" : Str) < ts.count ("{" : Str)))
def sp_is_open (K : PySem.W.Frag) : Sp := fun vs H Q _ => ∃ (l : Addr) (ts : List Str), vs = [.ref l] ∧ SqL K H l (ts.map V.str) ∧ ts.length ≤ 10000 ∧ (∀ t ∈ ts, Asc t) ∧ ∀ H', Ex H H' → Q (.bl (isOpen ts)) H'
/-- tokens spoiled at a place; opt: perhaps none -/
def sp_spoil (K : PySem.W.Frag) (opt : Bool) : Sp := fun vs H Q _ => ∃ (b l : Addr) (bd : Bdy), vs = [.ref b, .ref l] ∧ Bag H b ∧ l ≠ b ∧ H l = some (.lst (bd.toks.map V.str)) ∧ bd.ok ∧ bd.dep ≤ 6 ∧ bd.toks.length ≤ 1500 ∧ (opt = true → ∀ H', Le b H H' → Q .non H') ∧
  ∀ H' t p (ts : List Str) (n : Nat), Le b H H' → H' t = some (.tup [.ref p, .int n]) → H' p = some (.lst (ts.map V.str)) → p ≠ b → Spo ts n → ts.length ≤ bd.toks.length + 1 → (∀ u ∈ ts, gTok u) → Q (.ref t) H'
abbrev sp_wrong_word (K : PySem.W.Frag) : Sp := sp_spoil K true
abbrev sp_left_out (K : PySem.W.Frag) : Sp := sp_spoil K true
abbrev sp_spoiled (K : PySem.W.Frag) : Sp := sp_spoil K false
def sp_deep (K : PySem.W.Frag) : Sp := fun vs H Q _ => ∃ (l : Addr) (ts l1 : List Str) (t : Str) (r : List Str), vs = [.ref l] ∧ SqL K H l (ts.map V.str) ∧ ts.length ≤ 10000 ∧ ts = l1 ++ t :: r ∧ bal (l1 ++ [t]) = 7 ∧ (∀ p q, l1 = p ++ q → bal p ≤ 6) ∧ ∀ H', Ex H H' → Q (.int l1.length) H'
def sp_other_end (K : PySem.W.Frag) : Sp := fun vs H Q _ => ∃ (l : Addr) (ts : List Str) (s by' : Int) (q : List Str), vs = [.ref l, .int s, .int by'] ∧ SqL K H l (ts.map V.str) ∧ ts.length ≤ 10000 ∧ (by' = 1 ∨ by' = -1) ∧ Scan q ∧ q.length ≤ ts.length ∧
  (∀ (j : Nat) u, q[j]? = some u → 0 ≤ s + j * by' ∧ ts[(s + j * by').toNat]? = some u) ∧ ∀ H', Ex H H' → Q (.int (s + ((q.length : Int) - 1) * by')) H'
section
variable {K : PySem.W.Frag} {vs : List V} {H : Hp} {Q : VK} {E : XK}
theorem len_read_steps2 (h : sp_read_steps2 K vs H Q E) : vs.length = 1 := by
  rcases h with ⟨_, _, rfl, _⟩ | ⟨_, rfl, _⟩ <;> rfl
theorem len__law_at (h : sp_at K vs H Q E) : vs.length = 1 := by
  rcases h with ⟨_, _, rfl, _⟩ | ⟨_, rfl, _⟩ <;> rfl
theorem len__law_is_open (h : sp_is_open K vs H Q E) : vs.length = 1 := by obtain ⟨_, _, rfl, _⟩ := h; rfl
theorem len_spoil {o : Bool} (h : sp_spoil K o vs H Q E) : vs.length = 2 := by obtain ⟨_, _, _, rfl, _⟩ := h; rfl
theorem len__law_wrong_word (h : sp_wrong_word K vs H Q E) : vs.length = 2 := len_spoil h
theorem len__law_left_out (h : sp_left_out K vs H Q E) : vs.length = 2 := len_spoil h
theorem len__law_spoiled (h : sp_spoiled K vs H Q E) : vs.length = 2 := len_spoil h
theorem len__law_deep (h : sp_deep K vs H Q E) : vs.length = 1 := by obtain ⟨_, _, _, _, _, rfl, _⟩ := h; rfl
theorem len__law_other_end (h : sp_other_end K vs H Q E) : vs.length = 3 := by obtain ⟨_, _, _, _, _, rfl, _⟩ := h; rfl
theorem len_law (h : (sp_law K) vs H Q E) : vs.length = 1 := by obtain ⟨_, _, rfl, _⟩ := h; rfl
end
end Ef

/-! readings, printed by gen2.py -/
namespace Ef
open PySem PySem.Spec PyProof.Rows L2
/-- 0 _law_text, 1 e -/
def t__law_at (K : PySem.W.Frag) : TS := tSeq (tTryAs K (.ref (He.ga K "BadText")) 1 (fun W => tDrop (tCallS (sp_read_steps2 K) (WE W) (tCons (tVar 0) tNil))) (fun a cls d => tRet (tIf (tAnd (tB (tCB (rIsX K a cls d) (tCons (tVar 1) (tCons (tC (.ref (He.ga K "EarlyError"))) tNil)))) (tNot (tB (tCB (rIsX K a cls d) (tCons (tVar 1) (tCons (tC (.ref (He.ga K "TooMany"))) tNil)))))) (tXg K a cls d "at" (tVar 1)) (tC .non)))) (tRet (tC .non))
/-- 0 _law_tokens -/
def t__law_is_open (K : PySem.W.Frag) : TS := tSeq (tIfS (tTest (tOp (rEqD K) (tVar 0) (tLst tNil))) (tRet (tC (.bl false))) tNext) (tRet (tOrV (tOp (rIn K true) (tOp (rIxL K) (tVar 0) (tUn rNegI (tC (.int 1)))) (tLst (tCons (tC (.str "}")) (tCons (tC (.str ";")) tNil)))) (tOp rGtI (tBM K "list" (rCntV K) (tVar 0) (tCons (tC (.str "{")) tNil)) (tBM K "list" (rCntV K) (tVar 0) (tCons (tC (.str "}")) tNil)))))
/-- 0 _law_bag_here, 1 _law_tokens, 2 _law_some, 3 _law_more, 4 _law_at_here, 5 _law_wrong -/
def t__law_wrong_word (K : PySem.W.Frag) : TS := tSeq (tAsg (tLc (iRng2 (tCons (tC (.int 1)) (tCons (tCB (rLenSq K) (tCons (tVar 1) tNil)) tNil))) (gName 4) (tTest (tOp (rIn K false) (tOp (rIxL K) (tVar 1) (tOp rSubI (tVar 4) (tC (.int 1)))) (tLst (tCons (tC (.str "set")) (tCons (tC (.str "keep")) (tCons (tC (.str "read")) (tCons (tC (.str "look")) (tCons (tC (.str "call")) (tCons (tC (.str "if")) tNil))))))))) (tVar 4) [4]) (gName 2)) (tSeq (tAsg (tLc (iRng2 (tCons (tC (.int 1)) (tCons (tCB (rLenSq K) (tCons (tVar 1) tNil)) tNil))) (gName 4) (tTest (tOp (rIn K false) (tOp (rIxL K) (tVar 1) (tOp rSubI (tVar 4) (tC (.int 1)))) (tLst (tCons (tC (.str "of")) (tCons (tC (.str "make")) tNil))))) (tVar 4) [4]) (gName 3)) (tSeq (tIfS (tTest (tOp (rEqD K) (tOp rCat (tVar 2) (tVar 3)) (tLst tNil))) (tRet (tC .non)) tNext) (tSeq (tAsg (tCall (sp_one K) [] E0 (tCons (tVar 0) (tCons (tOp rCat (tVar 2) (tVar 3)) tNil))) (gName 4)) (tSeq (tAsg (tOp rCat (tLst (tCons (tC (.str "value")) (tCons (tC (.str ";")) (tCons (tC (.str "{")) (tCons (tC (.str "aB")) tNil))))) (tIf (tTest (tOp (rIn K false) (tVar 4) (tVar 2))) (tLst (tCons (tC (.str "super")) (tCons (tC (.str "aqzmaqzma")) (tCons (tC (.str "Aaaa")) tNil)))) (tLst (tCons (tC (.str "a")) (tCons (tC (.str "aqzm")) (tCons (tC (.str "ABc")) tNil)))))) (gName 5)) (tRet (tTup (tCons (tOp rCat (tOp rCat (tSl (rSlL K) (tVar 1) tNoPart (tPart (tVar 4))) (tLst (tCons (tCall (sp_one K) [] E0 (tCons (tVar 0) (tCons (tVar 5) tNil))) tNil))) (tSl (rSlL K) (tVar 1) (tPart (tOp rAddI (tVar 4) (tC (.int 1)))) tNoPart)) (tCons (tVar 4) tNil))))))))
/-- 0 _law_tokens, 1 _law_depth, 2 _law_at_here, 3 _law_token -/
def t__law_deep (K : PySem.W.Frag) : TS := tSeq (tAsg (tC (.int 0)) (gName 1)) (tSeq (tFor (iEnum K (tCons (tVar 0) tNil)) (gTup K 2 (gCons (gName 2) (gCons (gName 3) gNil))) (tSeq (tAsg (tOp rAddI (tVar 1) (tDGet2 (tDisp [(tC (.str "{"), tC (.int 1)), (tC (.str "}"), tUn rNegI (tC (.int 1)))]) (tVar 3) (tC (.int 0)))) (gName 1)) (tIfS (tTest (tOp rEq (tVar 1) (tC (.int 7)))) (tRet (tVar 2)) tNext))) (tRet (tUn rNegI (tC (.int 1)))))
/-- 0 _law_tokens, 1 _law_at_here, 2 _law_by, 3 _law_depth, 4 _law_turn -/
def t__law_other_end (K : PySem.W.Frag) : TS := tSeq (tAsg (tC (.int 0)) (gName 3)) (tSeq (tFor (iRng1 (tCons (tCB (rLenSq K) (tCons (tVar 0) tNil)) tNil)) (gName 4) (tSeq (tAsg (tOp rAddI (tVar 3) (tDGet2 (tDisp [(tC (.str "{"), tVar 2), (tC (.str "}"), tUn rNegI (tVar 2))]) (tOp (rIxL K) (tVar 0) (tOp rAddI (tVar 1) (tOp rMulI (tVar 4) (tVar 2)))) (tC (.int 0)))) (gName 3)) (tIfS (tTest (tOp rEq (tVar 3) (tC (.int 0)))) (tRet (tOp rAddI (tVar 1) (tOp rMulI (tVar 4) (tVar 2)))) tNext))) (tRet (tC (.int 0))))
/-- 0 _law_bag_here, 1 _law_tokens, 2 _law_found, 3 _law_at_here, 4 _law_token, 5 _law_end, 6 _law_first -/
def t__law_left_out (K : PySem.W.Frag) : TS := tSeq (tAsg (tLst tNil) (gName 2)) (tSeq (tFor (iEnum K (tCons (tVar 1) tNil)) (gTup K 2 (gCons (gName 3) (gCons (gName 4) gNil))) (tIfS (tTest (tOp (rIn K false) (tVar 4) (tLst (tCons (tC (.str "else")) (tCons (tC (.str "catch")) (tCons (tC (.str "or")) tNil)))))) (tSeq (tAsg (tCall (sp_other_end K) [] E0 (tCons (tVar 1) (tCons (tOp rAddI (tVar 3) (tC (.int 1))) (tCons (tC (.int 1)) tNil)))) (gName 5)) (tSeq (tAsg (tCall (sp_other_end K) [] E0 (tCons (tVar 1) (tCons (tOp rSubI (tVar 3) (tC (.int 1))) (tCons (tUn rNegI (tC (.int 1))) tNil)))) (gName 6)) (tIfS (tOr (tTest (tOp rNe (tVar 4) (tC (.str "or")))) (tAnd (tTest (tOp rEq (tOp (rIxL K) (tVar 1) (tOp rSubI (tVar 6) (tC (.int 1)))) (tC (.str "either")))) (tTest (tOp (rNeD K) (tSl (rSlL K) (tVar 1) (tPart (tOp rAddI (tVar 5) (tC (.int 1)))) (tPart (tOp rAddI (tVar 5) (tC (.int 2))))) (tLst (tCons (tC (.str "or")) tNil)))))) (tDrop (tBM K "list" rAppend (tVar 2) (tCons (tTup (tCons (tOp rCat (tSl (rSlL K) (tVar 1) tNoPart (tPart (tVar 3))) (tSl (rSlL K) (tVar 1) (tPart (tOp rAddI (tVar 5) (tC (.int 1)))) tNoPart)) (tCons (tVar 3) tNil))) tNil))) tNext))) tNext)) (tRet (tIf (tTest (tOp (rEqD K) (tVar 2) (tLst tNil))) (tC .non) (tCall (sp_one K) [] E0 (tCons (tVar 0) (tCons (tVar 2) tNil))))))
/-- 0 _law_bag_here, 1 _law_tokens, 2 _law_kind, 3 _law_at_here, 4 _law_found, 5 _law_some, 6 _law_cut, 7 _law_more -/
def t__law_spoiled (K : PySem.W.Frag) : TS := tSeq (tPar 2 3 (tCons (tCall sp_draw [] E0 (tCons (tVar 0) (tCons (tC (.int 5)) tNil))) (tCons (tCall sp_draw [] E0 (tCons (tVar 0) (tCons (tOp rAddI (tCB (rLenSq K) (tCons (tVar 1) tNil)) (tC (.int 1))) tNil))) tNil))) (tSeq (tIfS (tTest (tOp rEq (tVar 2) (tC (.int 4)))) (tSeq (tAsg (tCall (sp_left_out K) [] E0 (tCons (tVar 0) (tCons (tVar 1) tNil))) (gName 4)) (tIfS (tTest (tOp rIsNotNo (tVar 4) (tC .non))) (tRet (tVar 4)) tNext)) tNext) (tSeq (tIfS (tTest (tOp rEq (tVar 2) (tC (.int 0)))) (tRet (tTup (tCons (tOp rCat (tOp rCat (tSl (rSlL K) (tVar 1) tNoPart (tPart (tVar 3))) (tLst (tCons (tCall (sp_one K) [] E0 (tCons (tVar 0) (tCons (tLst (tCons (tC (.str "?")) (tCons (tC (.str "7")) (tCons (tC (.str "_")) (tCons (tC (.str ".")) (tCons (tC (.str "=")) (tCons (tC (.str "~")) (tCons (tC (.str "\t")) tNil)))))))) tNil))) tNil))) (tSl (rSlL K) (tVar 1) (tPart (tVar 3)) tNoPart)) (tCons (tVar 3) tNil)))) tNext) (tSeq (tIfS (tTest (tOp rEq (tVar 2) (tC (.int 1)))) (tSeq (tAsg (tLc (iRng2 (tCons (tC (.int 1)) (tCons (tCB (rLenSq K) (tCons (tVar 1) tNil)) tNil))) (gName 6) (tB (tCall (sp_is_open K) [] E0 (tCons (tSl (rSlL K) (tVar 1) tNoPart (tPart (tVar 6))) tNil))) (tVar 6) [6]) (gName 5)) (tIfS (tTest (tOp (rNeD K) (tVar 5) (tLst tNil))) (tSeq (tAsg (tCall (sp_one K) [] E0 (tCons (tVar 0) (tCons (tVar 5) tNil))) (gName 6)) (tRet (tTup (tCons (tSl (rSlL K) (tVar 1) tNoPart (tPart (tVar 6))) (tCons (tVar 6) tNil))))) tNext)) tNext) (tSeq (tIfS (tTest (tOp rEq (tVar 2) (tC (.int 2)))) (tSeq (tAsg (tCall (sp_wrong_word K) [] E0 (tCons (tVar 0) (tCons (tVar 1) tNil))) (gName 4)) (tIfS (tTest (tOp rIsNotNo (tVar 4) (tC .non))) (tRet (tVar 4)) tNext)) tNext) (tSeq (tAsg (tLst (tCons (tC (.str "}")) (tCons (tC (.str ")")) (tCons (tC (.str ";")) (tCons (tC (.str ",")) (tCons (tC (.str "{")) (tCons (tC (.str "init")) (tCons (tC (.str "else")) (tCons (tC (.str "catch")) (tCons (tC (.str "class")) (tCons (tC (.str "a")) (tCons (tC (.str "Aa")) tNil)))))))))))) (gName 7)) (tRet (tTup (tCons (tOp rCat (tVar 1) (tLst (tCons (tCall (sp_one K) [] E0 (tCons (tVar 0) (tCons (tVar 7) tNil))) tNil))) (tCons (tCB (rLenSq K) (tCons (tVar 1) tNil)) tNil)))))))))
/-- 0 _law_script, 1 _law_value, 2 _law_at_here, 3 _law_bag_here, 4 _law_words_here, 5 _law_many, 6 _law_body_here, 7 _law_tokens, 8 _law_wrong, 9 _law_text, 10 _law_places, 11 _law_deep_here -/
def t_law (K : PySem.W.Frag) : TS := tSeq (tFor (iList K (tLst (tCons (tC .non) (tCons (tC (.bl true)) (tCons (tC (.int 0)) (tCons (tUn rNegI (tC (.int 1))) (tCons (tTup tNil) (tCons (tTup (tCons (tC (.str "fail;")) tNil)) (tCons (tLst (tCons (tC (.str "fail;")) tNil)) (tCons (tTup (tCons (tTup (tCons (tC (.str "fail")) tNil)) tNil)) tNil)))))))))) (gName 1) (tIfS (tTest (tOp rNe (tCall (sp_at K) [] E0 (tCons (tVar 1) tNil)) (tUn rNegI (tC (.int 1))))) (tRet (tC (.bl false))) tNext)) (tSeq (tFor (iRng1 (tCons (tCB rMaxI2 (tCons (tC (.int 1)) (tCons (tCB rMinI2 (tCons (tC (.int 10)) (tCons (tCB (rLenSq K) (tCons (tVar 0) tNil)) tNil))) tNil))) tNil)) (gName 2) (tSeq (tAsg (tCall (sp_bag K) [] E0 (tCons (tVar 0) (tCons (tVar 2) tNil))) (gName 3)) (tSeq (tPar 4 5 (tCons (tCall (sp_start K) [] E0 (tCons (tVar 3) tNil)) (tCons (tCall sp_draw [] E0 (tCons (tVar 3) (tCons (tC (.int 7)) tNil))) tNil))) (tSeq (tAsg (tCall (sp_tower K) [] E0 (tCons (tVar 3) (tCons (tOp (rIxT K) (tVar 4) (tC (.int 0))) (tCons (tCall (sp_lbody K 7) [] E0 (tCons (tVar 3) (tCons (tVar 4) (tCons (tLst (tCons (tC (.int 30)) tNil)) (tCons (tOp rSubI (tC (.int 6)) (tVar 5)) tNil))))) (tCons (tVar 5) tNil))))) (gName 6)) (tSeq (tAsg (tCall (sp_spoiled K) [] E0 (tCons (tVar 3) (tCons (tCall (sp_signs K 9) [] E0 (tCons (tVar 6) tNil)) tNil))) (gTup K 2 (gCons (gName 7) (gCons (gName 8) gNil)))) (tSeq (tAsg (tCall (sp_spread K) [] E0 (tCons (tVar 3) (tCons (tVar 7) tNil))) (gTup K 2 (gCons (gName 9) (gCons (gName 10) gNil)))) (tSeq (tIfS (tTest (tOp rNe (tCall (sp_at K) [] E0 (tCons (tVar 9) tNil)) (tOp (rIxL K) (tOp rCat (tVar 10) (tLst (tCons (tCB rLenStr (tCons (tVar 9) tNil)) tNil))) (tVar 8)))) (tRet (tC (.bl false))) tNext) (tSeq (tAsg (tCall (sp_signs K 9) [] E0 (tCons (tCall (sp_tower K) [] E0 (tCons (tVar 3) (tCons (tOp (rIxT K) (tVar 4) (tC (.int 0))) (tCons (tTup (tCons (tTup (tCons (tC (.str "fail")) tNil)) tNil)) (tCons (tC (.int 7)) tNil))))) tNil)) (gName 11)) (tSeq (tAsg (tCall (sp_spread K) [] E0 (tCons (tVar 3) (tCons (tVar 11) tNil))) (gTup K 2 (gCons (gName 9) (gCons (gName 10) gNil)))) (tIfS (tTest (tOp rNe (tCall (sp_at K) [] E0 (tCons (tVar 9) tNil)) (tOp (rIxL K) (tVar 10) (tCall (sp_deep K) [] E0 (tCons (tVar 11) tNil))))) (tRet (tC (.bl false))) tNext)))))))))) (tRet (tC (.bl true))))
end Ef

namespace Ef
open PySem PySem.Spec PyProof.Rows L2 Evl
section
variable {K : PySem.W.Frag} {σ : L2.St} {H H1 H2 G : Hp} {ta tb te tl : TE} {v : V} {b r p : Addr}
theorem pure_read_steps2 (vs : List V) (H : Hp) (Q : VK) (E : XK) (h : (sp_read_steps2 K) vs H Q E) : t_read_steps K E { nx := fun _ H' => Q .non H', rt := Q } (start ["text", "reader", "body"] vs) H := by
  rcases h with h | ⟨v, rfl, ⟨tv, ht, hk⟩, k⟩
  · exact pure_read_steps vs H Q E h
  · refine q_when (et_not (et_B (ev_isi (ev_var rfl) ht hk))) (fun e G0 x0 => ?_) fun e => by cases e
    exact s_raise (ea_cons (ev_un ev_c ru_neg) ea_nil) rfl (by show 1 ≤ 900; decide) fun H1 d y hd => k H1 d (x0.trans y) hd
theorem ev_isX {a D dd : Addr} {fs : List (Str × V)} {i : Nat} {x : Str} {bb : Bool} (hi : σ[i]? = some (some (.ref a))) (ix : IsxC K D) (hd : H dd = some (.xd fs)) (hk : PySem.W.kitOne K (.ref D) (.ref (He.ga K x)) = some bb) : Ev (tCB (rIsX K a (.ref D) (some dd)) (tCons (tVar i) (tCons (tC (.ref (He.ga K x))) tNil))) σ H (.bl bb) :=
  ev_cb (ea_cons (ev_var hi) (ea_cons ev_c ea_nil)) fun H1 e _ q => ⟨_, _, bb, D, dd, fs, rfl, rfl, rfl, ix, e _ _ hd, fun u r => r, hk, q H1 (Evl.Ex.refl H1)⟩
theorem ev_xg {a D dd : Addr} {fs : List (Str × V)} {i : Nat} {f : Str} {u : V} (hi : σ[i]? = some (some (.ref a))) (ix : IsxC K D) (na : NoAttr K D f) (hd : H dd = some (.xd fs)) (hf : fs.lookup f = some u) : Ev (tXg K a (.ref D) (some dd) f (tVar i)) σ H u :=
  fun H1 e _ q => ⟨_, hi, rfl, D, dd, fs, u, rfl, rfl, ix, na, e _ _ hd, hf, q H1 (Evl.Ex.refl H1)⟩
theorem pure__law_at (ix : IsxC K (He.ga K "BadText")) (na : NoAttr K (He.ga K "BadText") "at") (k1 : PySem.W.exmOne K (.ref (He.ga K "BadText")) (.ref (He.ga K "BadText")) = some true) (k2 : PySem.W.kitOne K (.ref (He.ga K "BadText")) (.ref (He.ga K "EarlyError")) = some true) (k3 : PySem.W.kitOne K (.ref (He.ga K "BadText")) (.ref (He.ga K "TooMany")) = some false)
    (vs : List V) (H : Hp) (Q : VK) (E : XK) (h : (sp_at K) vs H Q E) : t__law_at K { nx := fun _ H' => Q .non H', rt := Q } (start ["_law_text", "e"] vs) H := by
  have suite : ∀ (v : V) (p : Int) (D : Ends) (H1 : Hp) (d a : Addr), (∀ H', Evl.Ex H H' → D.rt (.int p) H') → Evl.Ex H H1 → H1 d = none →
      tRet (tIf (tAnd (tB (tCB (rIsX K a (.ref (He.ga K "BadText")) (some d)) (tCons (tVar 1) (tCons (tC (.ref (He.ga K "EarlyError"))) tNil)))) (tNot (tB (tCB (rIsX K a (.ref (He.ga K "BadText")) (some d)) (tCons (tVar 1) (tCons (tC (.ref (He.ga K "TooMany"))) tNil)))))) (tXg K a (.ref (He.ga K "BadText")) (some d) "at" (tVar 1)) (tC .non)) D [some v, some (.ref a)] (upd H1 d (.xd [("at", .int p)])) := by
    intro v p D H1 d a k e hd
    refine s_ret (ev_if (et_and (et_B (ev_isX rfl ix upd_same k2)) fun _ => et_not (et_B (ev_isX rfl ix upd_same k3))) (fun _ => ev_xg rfl ix na upd_same rfl) fun q => by cases q) fun H3 e3 => k H3 ((e.trans (Evl.Ex.new hd)).trans e3)
  rcases h with ⟨z, p, rfl, hl, hR, k⟩ | ⟨v, rfl, hN, k⟩
  · refine ⟨_, rfl, .inl ⟨z, .bad p, rfl, hl, hR, fun H1 d e hd => ⟨true, k1, fun _ a _ => suite _ p _ H1 d a (fun H' e => k H' e) e hd, fun q => by cases q⟩⟩⟩
  · refine ⟨_, rfl, .inr ⟨v, rfl, hN, fun H1 d e hd => ⟨true, k1, fun _ a _ => suite _ (-1) _ H1 d a (fun H' e => k H' e) e hd, fun q => by cases q⟩⟩⟩
/-! ### is_open -/
theorem count_strs (w : Str) : ∀ ts : List Str, (ts.map V.str).countP (fun y => eqV y (.str w)) = ts.count w
  | [] => rfl
  | t :: ts => by
    rw [List.map_cons, List.countP_cons, List.count_cons, count_strs w ts]
    rfl
theorem ev_cnt {l : Addr} {ts : List Str} {w : Str} (h : Ev ta σ H (.ref l)) (hl : SqL K H l (ts.map V.str)) : Ev (tBM K "list" (rCntV K) ta (tCons (tC (.str w)) tNil)) σ H (.int (ts.count w : Nat)) := fun H1 e Q q =>
  h H1 e _ fun H2 e2 => ⟨Or.inl ⟨rfl, _, ex_l (e.trans e2) hl⟩, l, ts.map V.str, .str w, rfl, rfl, ex_l (e.trans e2) hl, rfl, flat_strs ts, by rw [count_strs]; exact q H2 e2⟩
theorem ev_niLs {x : Str} {ys : List Str} (ha : Ev ta σ H (.str x)) (hb : EvL tb σ H (ys.map V.str)) : Ev (tOp (rIn K true) ta tb) σ H (.bl (!decide (x ∈ ys))) := by
  rw [← inV_strs]
  exact ev_opL ha hb fun _ _ h _ => rv_niL (sq_of h) rfl (flat_strs ys)
theorem ev_isLs {x : Str} {ys : List Str} (ha : Ev ta σ H (.str x)) (hb : EvL tb σ H (ys.map V.str)) : Ev (tOp (rIn K false) ta tb) σ H (.bl (decide (x ∈ ys))) := by
  rw [← inV_strs]
  exact ev_opL ha hb fun _ _ h _ => rv_isL (sq_of h) rfl (flat_strs ys)
theorem atI_last (l : List V) (x : V) : atI (l ++ [x]) (-1) = some x := by
  unfold atI ixN
  simp only [List.length_append, List.length_cons, List.length_nil]
  rw [if_neg (by omega), if_pos (by omega)]
  show (l ++ [x])[((-1 : Int) + ((l.length + (0 + 1) : Nat) : Int)).toNat]? = some x
  rw [show ((-1 : Int) + ((l.length + (0 + 1) : Nat) : Int)).toNat = l.length by omega]
  simp
theorem split_last : ∀ {ts : List Str}, ts ≠ [] → ∃ l t, ts = l ++ [t] ∧ ts.getLastD "" = t
  | ts, h => by
    refine ⟨ts.dropLast, ts.getLast h, (List.dropLast_concat_getLast h).symm, ?_⟩
    rw [List.getLastD_eq_getLast?, List.getLast?_eq_some_getLast h]; rfl
theorem pure__law_is_open (vs : List V) (H : Hp) (Q : VK) (E : XK) (h : (sp_is_open K) vs H Q E) : t__law_is_open K { nx := fun _ H' => Q .non H', rt := Q } (start ["_law_tokens"] vs) H := by
  obtain ⟨l, ts, rfl, hl, hz, ha, k⟩ := h
  refine q_when (et_test (ev_eqNil (ev_var rfl) hl ha)) (fun e G x => ?_) (fun e G x => ?_)
  · refine s_ret ev_c fun G2 x2 => ?_
    have kk := k G2 (x.trans x2)
    unfold isOpen at kk
    rw [e] at kk
    exact kk
  · obtain ⟨l0, t, et, el⟩ := split_last (ts := ts) (fun q => by rw [q] at e; cases e)
    refine s_ret (ev_orV (ev_niLs (x := t) (ys := ["}", ";"]) (ev_ix (ev_var rfl) (ev_un ev_c ru_neg) (ex_l x hl) (by rw [et, List.map_append]; exact atI_last _ _)) (el_lst (ea_cons ev_c (ea_cons ev_c ea_nil)) (by show 2 ≤ 100000; decide))) fun _ => ev_op (ev_cnt (ev_var rfl) (ex_l x hl)) (ev_cnt (ev_var rfl) (ex_l x hl)) rv_I0) fun G2 x2 => ?_
    have kk := k G2 (x.trans x2)
    unfold isOpen at kk
    rw [e, el] at kk
    have e3 : decide ((ts.count ("}" : Str) : Int) < (ts.count ("{" : Str) : Int)) = decide (ts.count ("}" : Str) < ts.count ("{" : Str)) := by
      by_cases q : ts.count ("}" : Str) < ts.count ("{" : Str)
      · rw [decide_eq_true q, decide_eq_true (by omega)]
      · rw [decide_eq_false q, decide_eq_false (by omega)]
    rw [e3]
    exact kk
/-! ### braces counted by a dict -/
theorem brc_val (a : Int) (t : Str) : (valV (mergeK [] [(.inr ("{" : Str), .int a), (.inr ("}" : Str), .int (-a))]) (Sum.inr t : Key)).getD (.int 0) = .int (a * brc t) := by
  have e0 : mergeK [] [(.inr ("{" : Str), V.int a), (.inr ("}" : Str), .int (-a))] = [(.inr ("{" : Str), V.int a), (.inr ("}" : Str), .int (-a))] := by
    unfold mergeK
    rw [List.foldl_cons, List.foldl_cons, List.foldl_nil]
    have e1 : putK ([] : List (Key × V)) (.inr ("{" : Str)) (V.int a) = [(.inr ("{" : Str), V.int a)] := rfl
    rw [e1]
    unfold putK
    rw [if_neg (by
      rw [List.any_cons, List.any_nil, Bool.or_false]
      intro q
      have := of_decide_eq_true q
      injection this with this
      exact absurd this (by decide))]
    rfl
  rw [e0]
  unfold valV brc
  rw [List.find?_cons]
  by_cases h1 : t = "{"
  · subst h1
    rw [decide_eq_true rfl, if_pos rfl]
    show V.int a = V.int (a * 1)
    rw [Int.mul_one]
  · rw [decide_eq_false (fun q => by injection q with q; exact h1 q.symm), if_neg h1, List.find?_cons]
    by_cases h2 : t = "}"
    · subst h2
      rw [decide_eq_true rfl, if_pos rfl]
      show V.int (-a) = V.int (a * -1)
      rw [Int.mul_neg, Int.mul_one]
    · rw [decide_eq_false (fun q => by injection q with q; exact h2 q.symm), if_neg h2]
      show V.int 0 = V.int (a * 0)
      rw [Int.mul_zero]
theorem ev_brc {a : Int} {t : Str} (h1 : Ev ta σ H (.int a)) (h2 : Ev tb σ H (.int (-a))) (h3 : Ev te σ H (.str t)) : Ev (tDGet2 (tDisp [(tC (.str "{"), ta), (tC (.str "}"), tb)]) te (tC (.int 0))) σ H (.int (a * brc t)) := fun G1 e Q q => fun p hp =>
  h1 _ (e.trans (Evl.Ex.new hp)) _ fun G2 x2 => h2 G2 ((e.trans (Evl.Ex.new hp)).trans x2) _ fun G3 x3 => by
    have h0 : G3 p = some (.dK []) := x3 _ _ (x2 _ _ upd_same)
    have x : Evl.Ex G1 (upd G3 p (.dK (mergeK [] [(.inr ("{" : Str), .int a), (.inr ("}" : Str), .int (-a))]))) := Evl.Ex.mut ((Evl.Ex.new hp).trans (x2.trans x3)) hp
    refine ⟨h0, [(.inr ("{" : Str), .int a), (.inr ("}" : Str), .int (-a))], rfl, by show 2 ≤ 15; decide, p, rfl, .inl ⟨_, .inl upd_same⟩, h3 _ (e.trans x) _ fun G4 x4 => ⟨_, DGet.k (k := .inr t) (x4 _ _ upd_same), ?_⟩⟩
    rw [brc_val]
    exact q G4 (x.trans x4)
/-- a walk over enumerate of a list whose turns only allocate, or keep what Pv says -/
theorem q_forE {at' : TA} {a : Addr} {xs : List V} {tu tz : TS} {D : Ends} {i1 i2 : Nat} (h : EvA at' σ H [.ref a]) (hx : SqL K H a xs) (Pv : Nat → L2.St → Hp → Prop) (h0 : ∀ H1, Evl.Ex H H1 → Pv 0 σ H1) (hl : ∀ i σ H, i ≤ xs.length → Pv i σ H → SqL K H a xs)
    (hs : ∀ i y σ' H' H2, i < xs.length → xs[i]? = some y → Pv i σ' H' → Evl.Ex H' H2 → tu { D with nx := Pv (i + 1), ct := Pv (i + 1), bk := tz D } ((σ'.set i1 (some (.int (i : Nat)))).set i2 (some y)) H2) (hd : ∀ σ H, Pv xs.length σ H → tz D σ H) :
    tSeq (tFor (iEnum K at') (gTup K 2 (gCons (gName i1) (gCons (gName i2) gNil))) tu) tz D σ H :=
  h H (Evl.Ex.refl H) _ fun H1 e => ⟨a, xs, rfl, ex_l e hx, for_it (walk_enum (xs := xs)) Pv (h0 H1 e) hl (fun i w σ' G G' hi hP hy => by
    obtain ⟨T, y1, y2, rfl, nT, rfl, e4, e5⟩ := hy
    have e6 : y1 = .int (i : Nat) := (Option.some.inj e4).symm
    subst e6
    exact ⟨T, _, rfl, st_of upd_same, rfl, _, _, rfl, _, _, rfl, rfl, hs i y2 σ' G _ hi e5 hP (Evl.Ex.new nT)⟩) hd⟩
theorem bal_take {ts : List Str} {i : Nat} {u : Str} (h : ts[i]? = some u) : bal (ts.take (i + 1)) = bal (ts.take i) + brc u := by
  rw [take_succ h, bal_app, bal, bal]; omega
theorem pure__law_deep (vs : List V) (H : Hp) (Q : VK) (E : XK) (h : (sp_deep K) vs H Q E) : t__law_deep K { nx := fun _ H' => Q .non H', rt := Q } (start ["_law_tokens", "_law_depth", "_law_at_here", "_law_token"] vs) H := by
  obtain ⟨l, ts, l1, t, r, rfl, hl, hz, et, h7, hb, k⟩ := h
  have hlen : l1.length < ts.length := by rw [et, List.length_append, List.length_cons]; omega
  refine q_asg ev_c fun G0 x0 => ?_
  refine q_forE (xs := ts.map V.str) (ea_cons (ev_var rfl) ea_nil) (ex_l x0 hl) (fun i σ G => ∃ v2 v3, σ = [some (.ref l), some (.int (bal (ts.take i))), v2, v3] ∧ Evl.Ex H G ∧ i ≤ l1.length) (fun H1 x1 => ⟨none, none, rfl, x0.trans x1, Nat.zero_le _⟩) ?_ ?_ ?_
  · rintro i σ G _ ⟨v2, v3, rfl, xg, _⟩
    exact ex_l xg hl
  · rintro i y σ G G2 hi hy ⟨v2, v3, rfl, xg, hi2⟩ x2
    rw [List.length_map] at hi
    have eu : ts[i]? = some ts[i] := List.getElem?_eq_getElem hi
    rw [List.getElem?_map, eu] at hy
    have ey : y = .str ts[i] := (Option.some.inj hy).symm
    subst ey
    refine q_asg (v := .int (bal (ts.take (i + 1)))) (ev_is (ev_add (ev_var rfl) (ev_brc ev_c (ev_un ev_c ru_neg) (ev_var rfl))) (by rw [bal_take eu, Int.one_mul])) fun G3 x3 => ?_
    refine s_when (et_intEq (ev_var rfl) ev_c) (fun e G4 x4 => ?_) (fun e G4 x4 => ?_)
    · have e := of_decide_eq_true e
      refine s_ret (ev_var rfl) fun G5 x5 => ?_
      have : i = l1.length := by
        rcases Nat.lt_or_ge i l1.length with q | q
        · have e2 : ts.take (i + 1) = l1.take (i + 1) := by rw [et, List.take_append_of_le_length (by omega)]
          rw [e2] at e
          have := hb (l1.take (i + 1)) (l1.drop (i + 1)) (List.take_append_drop _ _).symm
          omega
        · omega
      subst this
      exact k G5 ((((xg.trans x2).trans x3).trans x4).trans x5)
    · have e := of_decide_eq_false e
      refine ⟨_, _, rfl, ((xg.trans x2).trans x3).trans x4, ?_⟩
      rcases Nat.lt_or_ge i l1.length with q | q
      · omega
      · have hi3 : i = l1.length := by omega
        subst hi3
        refine absurd ?_ e
        have e2 : ts.take (l1.length + 1) = l1 ++ [t] := by rw [et, show l1 ++ t :: r = (l1 ++ [t]) ++ r by simp, show l1.length + 1 = (l1 ++ [t]).length by simp, List.take_left]
        rw [e2]; exact h7
  · rintro σ G ⟨v2, v3, rfl, xg, hi2⟩
    rw [List.length_map] at hi2
    omega
theorem pure__law_other_end (vs : List V) (H : Hp) (Q : VK) (E : XK) (h : (sp_other_end K) vs H Q E) : t__law_other_end K { nx := fun _ H' => Q .non H', rt := Q } (start ["_law_tokens", "_law_at_here", "_law_by", "_law_depth", "_law_turn"] vs) H := by
  obtain ⟨l, ts, s, by', q, rfl, hl, hz, hby, ⟨hq0, hq1, hq2⟩, hql, hq, k⟩ := h
  have hqp : 0 < q.length := List.length_pos_iff.mpr hq0
  refine q_asg ev_c fun G0 x0 => ?_
  refine q_forR1 (ea_cons (ev_lenSq (ev_var rfl) (.inl (ex_l x0 hl))) ea_nil) ⟨by omega, by rw [List.length_map]; omega⟩ (fun i σ G => ∃ v4, σ = [some (.ref l), some (.int s), some (.int by'), some (.int (by' * bal (q.take i))), v4] ∧ Evl.Ex H G ∧ i < q.length) (fun H1 x1 => ⟨none, by rw [List.take_zero, bal, Int.mul_zero]; rfl, x0.trans x1, hqp⟩) ?_ ?_
  · rintro i σ G hi ⟨v4, rfl, xg, hi2⟩
    have eu : q[i]? = some q[i] := List.getElem?_eq_getElem hi2
    obtain ⟨g1, g2⟩ := hq i _ eu
    have hix : Ev (tOp rAddI (tVar 1) (tOp rMulI (tVar 4) (tVar 2))) [some (.ref l), some (.int s), some (.int by'), some (.int (by' * bal (q.take i))), some (.int (i : Int))] G (.int (s + (i : Int) * by')) := ev_add (ev_var rfl) (ev_mul (ev_var rfl) (ev_var rfl) (cmul_l (by omega) (by omega)))
    have hat : atI (ts.map V.str) (s + (i : Int) * by') = some (.str q[i]) := by
      obtain ⟨j, ej⟩ := Int.eq_ofNat_of_zero_le g1
      rw [ej] at g2 ⊢
      refine atI_nat ?_
      rw [List.getElem?_map, show (j : Int).toNat = j by omega] at *
      rw [g2]; rfl
    refine q_asg (v := .int (by' * bal (q.take (i + 1)))) (ev_is (ev_add (ev_var rfl) (ev_brc (ev_var rfl) (ev_un (ev_var rfl) ru_neg) (ev_ix (ev_var rfl) hix (ex_l xg hl) hat))) (by rw [bal_take eu, Int.mul_add])) fun G3 x3 => ?_
    refine s_when (et_intEq (ev_var rfl) ev_c) (fun e G4 x4 => ?_) (fun e G4 x4 => ?_)
    · have e := of_decide_eq_true e
      have e0 : bal (q.take (i + 1)) = 0 := by rcases hby with rfl | rfl <;> omega
      have hi3 : i + 1 = q.length := by
        rcases Nat.lt_or_ge (i + 1) q.length with w | w
        · refine absurd e0 (hq2 (q.take (i + 1)) (q.drop (i + 1)) (List.take_append_drop _ _).symm (fun z => ?_) fun z => ?_)
          · have := congrArg List.length z
            rw [List.length_take, List.length_nil] at this
            omega
          · have := congrArg List.length z
            rw [List.length_drop, List.length_nil] at this
            omega
        · omega
      refine s_ret (ev_add (ev_var rfl) (ev_mul (ev_var rfl) (ev_var rfl) (cmul_l (by omega) (by omega)))) fun G5 x5 => ?_
      have kk := k G5 (((xg.trans x3).trans x4).trans x5)
      rw [show (q.length : Int) - 1 = (i : Int) by omega] at kk
      exact kk
    · have e := of_decide_eq_false e
      refine ⟨_, rfl, (xg.trans x3).trans x4, ?_⟩
      rcases Nat.lt_or_ge (i + 1) q.length with w | w
      · exact w
      · refine absurd ?_ e
        rw [List.take_of_length_le w, hq1, Int.mul_zero]
  · rintro σ G ⟨v4, rfl, xg, hi2⟩
    rw [List.length_map] at hi2
    omega
end
end Ef

namespace Ef
open PySem PySem.Spec PyProof.Rows L2 Evl
section
variable {K : PySem.W.Frag} {σ : L2.St} {H H1 H2 G : Hp} {ta tb te tl : TE} {t : TT} {v : V} {b r p : Addr}
theorem el_lcR2 {ta : TA} {j : Nat} {vs : List Nat} {lo n : Int} (f : Nat → Bool) (v : Nat → V) (h : EvA ta σ H [.int lo, .int n]) (hn : 0 ≤ lo ∧ lo ≤ 40000 ∧ -40000 ≤ n ∧ n ≤ 40000) (hw : ∀ x, wipe ((wipe σ vs).set j (some x)) vs = wipe σ vs)
    (ht : ∀ (i : Nat) H1, Evl.Ex H H1 → lo + (i : Int) < n → EvT t ((wipe σ vs).set j (some (.int (lo + (i : Int))))) H1 (f i)) (he : ∀ (i : Nat) H1, Evl.Ex H H1 → lo + (i : Int) < n → f i = true → Ev te ((wipe σ vs).set j (some (.int (lo + (i : Int))))) H1 (v i)) :
    EvL (tLc (iRng2 ta) (gName j) t te vs) σ H (given (n - lo).toNat f v) := fun H0 e Q q => h H0 e _ fun H1 e1 => ⟨lo, n, rfl, ⟨by omega, by omega, by omega, by omega⟩, fun Dl hD =>
  lc_range (lo := lo) (n := (n - lo).toNat) (Cw H1 f v Dl) ⟨hD, Evl.Ex.new hD, upd_same⟩ (fun i H' hi p =>
    ⟨hw _, cw_turn p (by omega) (ht i H1 (e.trans e1) (by omega)) (fun hf => he i H1 (e.trans e1) (by omega) hf)⟩) (fun H' p => q Dl H' (fresh_back e1 p.1) (e1.trans p.2.1) p.2.2)⟩
theorem cut_take (xs : List V) (i : Nat) (h : i ≤ xs.length) : cutV xs none (some (i : Int)) = xs.take i := by
  unfold cutV
  rw [HT.sIx_none, HT.sIx_nat, Nat.min_eq_left h]; rfl
theorem cut_drop (xs : List V) (i : Nat) : cutV xs (some (i : Int)) none = xs.drop i := by
  unfold cutV
  rw [HT.sIx_none, HT.sIx_nat]
  rcases Nat.lt_or_ge i xs.length with h | h
  · rw [Nat.min_eq_left (by omega), List.take_of_length_le (by rw [List.length_drop]; omega)]
  · rw [Nat.min_eq_right h, List.drop_of_length_le (by omega), List.drop_of_length_le (by omega)]; simp
theorem cut_one (xs : List V) (i : Nat) : cutV xs (some (i : Int)) (some ((i + 1 : Nat) : Int)) = (xs.drop i).take 1 := by
  unfold cutV
  rw [HT.sIx_nat, HT.sIx_nat]
  rcases Nat.lt_or_ge i xs.length with h | h
  · rw [Nat.min_eq_left (by omega), Nat.min_eq_left (by omega), Nat.add_sub_cancel_left]
  · rw [Nat.min_eq_right h, Nat.min_eq_right (by omega), List.drop_of_length_le (by omega), List.drop_of_length_le (by omega)]; simp
theorem el_pre {a : Addr} {ts : List Str} {i : Nat} {th : TE} (h : Ev te σ H (.ref a)) (h2 : Ev th σ H (.int (i : Int))) (hs : SqL K H a (ts.map V.str)) (hi : i ≤ ts.length) : EvL (tSl (rSlL K) te tNoPart (tPart th)) σ H ((ts.take i).map V.str) :=
  el_is (el_sl h eo_none (eo_some h2) hs) (by rw [cut_take _ _ (by rw [List.length_map]; exact hi), List.map_take])
theorem el_suf {a : Addr} {ts : List Str} {i : Nat} {th : TE} (h : Ev te σ H (.ref a)) (h2 : Ev th σ H (.int (i : Int))) (hs : SqL K H a (ts.map V.str)) : EvL (tSl (rSlL K) te (tPart th) tNoPart) σ H ((ts.drop i).map V.str) :=
  el_is (el_sl h (eo_some h2) eo_none hs) (by rw [cut_drop, List.map_drop])
/-! ### lists of ints and of texts compared -/
theorem dps_ints : ∀ ns : List Int, DpAll K H (ns.map V.int) (ns.map PyData.int)
  | [] => .nil
  | n :: r => .cons (.int n) (dps_ints r)
theorem lay_ints : ∀ ns : List Int, PyData.canLayAll0 (ns.map PyData.int) = true
  | [] => by simp [PyData.canLayAll0]
  | n :: r => by rw [List.map_cons]; simp only [PyData.canLayAll0, PyData.canLay0]; rw [lay_ints r]; rfl
theorem depth_ints : ∀ ns : List Int, PyData.depthAll (ns.map PyData.int) = 0
  | [] => by simp [PyData.depthAll]
  | n :: r => by rw [List.map_cons]; simp only [PyData.depthAll, PyData.depth]; rw [depth_ints r]; rfl
theorem shaped_ints (ns : List Int) : SeqAt.shaped (.list (ns.map PyData.int)) = true := by
  unfold SeqAt.shaped
  rw [Bool.and_eq_true]
  refine ⟨by simp only [PyData.canLay0]; exact lay_ints ns, decide_eq_true ?_⟩
  simp only [PyData.depth]
  rw [depth_ints]; decide
theorem empty_map {α β : Type} (f : α → β) (l : List α) : (l.map f).isEmpty = l.isEmpty := by cases l <;> rfl
theorem ev_eqNilL {ns : List Int} (h : EvL ta σ H (ns.map V.int)) : Ev (tOp (rEqD K) ta (tLst tNil)) σ H (.bl ns.isEmpty) := fun G1 e Q k =>
  h G1 e _ fun p G2 hp e2 h2 => ⟨by decide, fun q hq => ⟨_, _, .lst (sq_of (Evl.Ex.new hq _ _ h2)) (dps_ints ns), .lst (sq_of upd_same) .nil, shaped_ints ns, shaped_nil, by
    rw [eqv_nil, empty_map]
    exact k _ (e2.trans (Evl.Ex.new hq))⟩⟩
theorem ev_neNilI {ns : List Int} {l : Addr} (h : Ev ta σ H (.ref l)) (hl : H l = some (.lst (ns.map V.int))) : Ev (tOp (rNeD K) ta (tLst tNil)) σ H (.bl (!ns.isEmpty)) := fun G1 e Q k =>
  h G1 e _ fun G2 e2 => ⟨by decide, fun q hq => ⟨_, _, .lst (sq_of (Evl.Ex.new hq _ _ (e2 _ _ (e _ _ hl)))) (dps_ints ns), .lst (sq_of upd_same) .nil, shaped_ints ns, shaped_nil, by
    rw [eqv_nil, empty_map]
    exact k _ (e2.trans (Evl.Ex.new hq))⟩⟩
theorem eqv_strs : ∀ a c : List Str, PyData.eqvAll (a.map PyData.str) (c.map PyData.str) = decide (a = c)
  | [], [] => by simp [PyData.eqvAll]
  | [], _ :: _ => by simp [PyData.eqvAll]
  | _ :: _, [] => by simp [PyData.eqvAll]
  | x :: a, y :: c => by
    have ih := eqv_strs a c
    rw [List.map_cons, List.map_cons]
    simp only [PyData.eqvAll, PyData.eqv]
    rw [ih]
    by_cases h1 : x = y
    · subst h1
      by_cases h2 : a = c
      · subst h2; simp
      · simp [h2]
    · simp [h1]
theorem ev_neStrs {a c : List Str} (h : EvL ta σ H (a.map V.str)) (h2 : EvL tb σ H (c.map V.str)) (ha : ∀ y ∈ a, Asc y) (hc : ∀ y ∈ c, Asc y) : Ev (tOp (rNeD K) ta tb) σ H (.bl (!decide (a = c))) :=
  ev_opLL h h2 fun p q G1 hp hq e1 G2 e2 Q k => ⟨_, _, .lst (sq_of (e2 _ _ hp)) (dps_strs a), .lst (sq_of (e2 _ _ hq)) (dps_strs c), shaped_strs a ha, shaped_strs c hc, by
    rw [show PyData.eqv (.list (a.map PyData.str)) (.list (c.map PyData.str)) = decide (a = c) by simp only [PyData.eqv]; exact eqv_strs a c]
    exact k G2 (Evl.Ex.refl G2)⟩
theorem inV_ints (k : Int) : ∀ ns : List Int, inV (.int k) (ns.map V.int) = decide (k ∈ ns)
  | [] => by simp [inV]
  | n :: r => by
    have ih := inV_ints k r
    unfold inV at ih ⊢
    rw [List.map_cons, List.any_cons, ih]
    by_cases e : k = n
    · subst e; simp [eqV]
    · have e2 : ¬ n = k := fun q => e q.symm
      simp [eqV, e, e2]
theorem flat_ints : ∀ ns : List Int, (ns.map V.int).all flatV = true
  | [] => rfl
  | n :: r => by rw [List.map_cons, List.all_cons, flat_ints r]; rfl
/-- the ints of a comprehension over a range from 1 -/
def picks (n : Nat) (f : Nat → Bool) : List Int := ((List.range n).filter f).map fun i : Nat => 1 + (i : Int)
theorem given_picks (n : Nat) (f : Nat → Bool) : given n f (fun i => .int (1 + (i : Int))) = (picks n f).map V.int := by
  unfold given picks
  rw [List.map_map]; rfl
theorem picks_mem {n : Nat} {f : Nat → Bool} {k : Int} (h : k ∈ picks n f) : ∃ i, i < n ∧ f i = true ∧ k = ((i + 1 : Nat) : Int) := by
  unfold picks at h
  obtain ⟨i, hi, rfl⟩ := List.mem_map.mp h
  obtain ⟨h1, h2⟩ := List.mem_filter.mp hi
  exact ⟨i, List.mem_range.mp h1, h2, by omega⟩
theorem mem_picks {n : Nat} {f : Nat → Bool} {i : Nat} (h1 : i < n) (h2 : f i = true) : ((i + 1 : Nat) : Int) ∈ picks n f := by
  unfold picks
  exact List.mem_map.mpr ⟨i, List.mem_filter.mpr ⟨List.mem_range.mpr h1, h2⟩, by omega⟩
theorem picks_len (n : Nat) (f : Nat → Bool) : (picks n f).length ≤ n := by
  unfold picks
  rw [List.length_map]
  have h := List.length_filter_le f (List.range n)
  rw [List.length_range] at h
  exact h
theorem asc_gt {w : Str} (h : gTok w) : Asc w := fun c hc => by
  rcases h.2 with ⟨_, h2⟩ | ⟨d, e, h2, _⟩
  · have : ∀ c ∈ letters.cps.toList, c < 128 := by decide +kernel
    exact this c (of_decide_eq_true (h2 c hc))
  · rw [e] at hc
    rw [List.mem_singleton.mp hc]; exact h2
/-- a list with a drawn text in its middle -/
theorem s_retMid {tm : TA} {ls rs ws : List Str} {l2 : Addr} {n : Int} {tn : TE} {D : Ends} (hb : Bag H b) (h1 : EvL ta σ H (ls.map V.str)) (hA : ∀ G, Evl.Ex H G → ∀ Q, (∀ l2 G2, Le b G G2 → l2 ≠ b → G2 l2 = some (.lst (ws.map V.str)) → Q [.ref b, .ref l2] G2) → tm σ G Q) (hw0 : ws ≠ []) (hw1 : ws.length ≤ 1000)
    (h2 : ∀ G, Le b H G → EvL tb σ G (rs.map V.str)) (hn : ∀ G, Le b H G → Ev tn σ G (.int n)) (hz : ls.length + rs.length ≤ 5000)
    (k : ∀ G t q w, w ∈ ws → Le b H G → G t = some (.tup [.ref q, .int n]) → G q = some (.lst ((ls ++ [w] ++ rs).map V.str)) → q ≠ b → D.rt (.ref t) G) :
    tRet (tTup (tCons (tOp rCat (tOp rCat ta (tLst (tCons (tCall (sp_one K) [] E0 tm) tNil))) tb) (tCons tn tNil))) D σ H := by
  refine h1 H (Evl.Ex.refl H) _ fun p1 G1 hp1 x1 e1 => ?_
  have hp1b : p1 ≠ b := bag_ne hb hp1
  refine hA G1 x1 _ fun l2 G2 le2 hl2 e2 => ?_
  have leA : Le b H G2 := (Le.of x1).trans le2
  refine ⟨b, l2, ws.map V.str, rfl, leA.bag hb, hl2, sq_of e2, fun e => hw0 (List.map_eq_nil_iff.mp e), by rw [List.length_map]; omega, fun G3 x le3 hx => ?_⟩
  obtain ⟨w, hw, rfl⟩ := List.mem_map.mp hx
  have leB : Le b H G3 := leA.trans le3
  refine ⟨by show 1 ≤ sizeLine; decide, fun p2 hp2 => ?_⟩
  have leC : Le b H (upd G3 p2 (.lst [.str w])) := leB.trans (Le.of (Evl.Ex.new hp2))
  have e1C : (upd G3 p2 (.lst [.str w])) p1 = some (.lst (ls.map V.str)) := Evl.Ex.new hp2 _ _ (le3.keep _ _ hp1b (le2.keep _ _ hp1b e1))
  refine ⟨p1, p2, ls.map V.str, [.str w], rfl, rfl, e1C, upd_same, sz_of (by rw [List.length_map]; show _ + 1 ≤ _; omega), fun p3 hp3 => ?_⟩
  have leD : Le b H (upd (upd G3 p2 (.lst [.str w])) p3 (.lst (ls.map V.str ++ [.str w]))) := leC.trans (Le.of (Evl.Ex.new hp3))
  refine h2 _ leD _ (Evl.Ex.refl _) _ fun p4 G5 hp4 x5 e5 => ?_
  refine ⟨p3, p4, ls.map V.str ++ [.str w], rs.map V.str, rfl, rfl, x5 _ _ upd_same, e5, sz_of (by simp only [List.length_append, List.length_map, List.length_cons, List.length_nil]; omega), fun p5 hp5 => ?_⟩
  have leE : Le b H (upd G5 p5 (.lst (ls.map V.str ++ [.str w] ++ rs.map V.str))) := (leD.trans (Le.of x5)).trans (Le.of (Evl.Ex.new hp5))
  have hp5b : p5 ≠ b := bag_ne ((leD.trans (Le.of x5)).bag hb) hp5
  refine hn _ leE _ (Evl.Ex.refl _) _ fun G6 x6 => ⟨by show 2 ≤ sizeLine; decide, fun t ht => ?_⟩
  refine k _ t p5 w hw ((leE.trans (Le.of x6)).trans (Le.of (Evl.Ex.new ht))) upd_same (Evl.Ex.new ht _ _ (x6 _ _ ?_)) hp5b
  rw [upd_same, List.map_append, List.map_append]; rfl
theorem gt_all {bd : Bdy} (ok : bd.ok) : ∀ t ∈ bd.toks, gTok t := Bdy.gt bd ok
theorem gt_list (l : List Str) (h : ∀ w ∈ l, w.length ≤ 9 ∧ ((w.cps.toList ≠ [] ∧ ∀ c ∈ w.cps.toList, isLet c = true) ∨ (w.cps.toList.length = 1 ∧ ∀ c ∈ w.cps.toList, c < 128 ∧ isLet c = false ∧ isBlank c = false))) : ∀ w ∈ l, gTok w := fun w hw => by
  obtain ⟨h1, h2⟩ := h w hw
  refine ⟨h1, h2.imp_right fun ⟨h3, h4⟩ => ?_⟩
  obtain ⟨c, e⟩ := List.length_eq_one_iff.mp h3
  exact ⟨c, e, h4 c (by rw [e]; simp)⟩
theorem gt_wrongW : ∀ w ∈ wrongW, gTok w := gt_list _ (by decide +kernel)
theorem gt_wrongC : ∀ w ∈ wrongC, gTok w := gt_list _ (by decide +kernel)
theorem gt_odds : ∀ w ∈ odds, gTok w := gt_list _ (by decide +kernel)
theorem gt_ends : ∀ w ∈ ends, gTok w := gt_list _ (by decide +kernel)
theorem split_at {ts : List Str} {i : Nat} {w u : Str} (h1 : ts[i]? = some w) (h2 : ts[i + 1]? = some u) : ts = ts.take i ++ w :: u :: ts.drop (i + 2) := by
  have e1 : ts.drop i = w :: ts.drop (i + 1) := by
    obtain ⟨h, rfl⟩ := List.getElem?_eq_some_iff.mp h1
    exact List.drop_eq_getElem_cons h
  have e2 : ts.drop (i + 1) = u :: ts.drop (i + 2) := by
    obtain ⟨h, rfl⟩ := List.getElem?_eq_some_iff.mp h2
    exact List.drop_eq_getElem_cons h
  rw [← e2, ← e1, List.take_append_drop]
def wordsIf : List Str := ["set", "keep", "read", "look", "call", "if"]
theorem pure__law_wrong_word (vs : List V) (H : Hp) (Q : VK) (E : XK) (h : (sp_wrong_word K) vs H Q E) : t__law_wrong_word K { nx := fun _ H' => Q .non H', rt := Q } (start ["_law_bag_here", "_law_tokens", "_law_some", "_law_more", "_law_at_here", "_law_wrong"] vs) H := by
  obtain ⟨b, l, bd, rfl, hb, hlb, hl, ok, hd, hlen, k0, k⟩ := h
  generalize hts : bd.toks = ts at *
  have hgt : ∀ t ∈ ts, gTok t := by rw [← hts]; exact gt_all ok
  -- the places behind some words
  have comp : ∀ (ws : List Str) (tw : TE) (G : Hp) (σ : L2.St), Evl.Ex H G → σ[1]? = some (some (.ref l)) → σ.length = 6 → (∀ x G1, EvL tw ((wipe σ [4]).set 4 x) G1 (ws.map V.str)) →
      EvL (tLc (iRng2 (tCons (tC (.int 1)) (tCons (tCB (rLenSq K) (tCons (tVar 1) tNil)) tNil))) (gName 4) (tTest (tOp (rIn K false) (tOp (rIxL K) (tVar 1) (tOp rSubI (tVar 4) (tC (.int 1)))) tw)) (tVar 4) [4]) σ G ((picks (ts.length - 1) fun i => decide (ts.getD i "" ∈ ws)).map V.int) := by
    intro ws tw G σ x h1 hσ hw
    match σ, h1, hσ with
    | [s0, s1, s2, s3, s4, s5], h1, _ =>
    have h1 : s1 = some (.ref l) := Option.some.inj h1
    subst h1
    have z := el_lcR2 (σ := [s0, some (.ref l), s2, s3, s4, s5]) (H := G) (ta := tCons (tC (.int 1)) (tCons (tCB (rLenSq K) (tCons (tVar 1) tNil)) tNil)) (t := tTest (tOp (rIn K false) (tOp (rIxL K) (tVar 1) (tOp rSubI (tVar 4) (tC (.int 1)))) tw)) (te := tVar 4) (j := 4) (vs := [4]) (lo := 1) (n := ((ts.map V.str).length : Int)) (fun i => decide (ts.getD i "" ∈ ws)) (fun i => .int (1 + (i : Int)))
      (ea_cons ev_c (ea_cons (ev_lenSq (ev_var rfl) (.inl (sq_of (x _ _ hl)))) ea_nil)) (by rw [List.length_map]; omega) (fun _ => rfl) (fun i G1 x1 hi => ?_) (fun i G1 x1 hi _ => ev_var rfl)
    · rw [given_picks] at z
      have e : (((ts.map V.str).length : Int) - 1).toNat = ts.length - 1 := by rw [List.length_map]; omega
      rw [e] at z
      exact z
    · rw [List.length_map] at hi
      refine et_test (ev_isLs (ev_ix (ev_var rfl) (ev_sub (ev_var rfl) ev_c) (sq_of (x1 _ _ (x _ _ hl))) ?_) (hw _ _))
      rw [show (1 : Int) + (i : Int) - 1 = ((i : Nat) : Int) by omega]
      refine atI_nat ?_
      rw [List.getElem?_map, List.getElem?_eq_getElem (by omega : i < ts.length), List.getD_eq_getElem?_getD, List.getElem?_eq_getElem (by omega : i < ts.length)]; rfl
  refine q_asgL (comp wordsIf _ H _ (Evl.Ex.refl H) rfl rfl fun x G1 => el_lst (ea_cons ev_c (ea_cons ev_c (ea_cons ev_c (ea_cons ev_c (ea_cons ev_c (ea_cons ev_c ea_nil)))))) (by show 6 ≤ 100000; decide)) fun p1 G1 hp1 x1 e1 => ?_
  refine q_asgL (comp classSteps _ G1 _ x1 rfl rfl fun x G1 => el_lst (ea_cons ev_c (ea_cons ev_c ea_nil)) (by show 2 ≤ 100000; decide)) fun p2 G2 hp2 x2 e2 => ?_
  have e12 := x2 _ _ e1
  have x12 := x1.trans x2
  have hcat : ∀ G', Evl.Ex G2 G' → EvL (tOp rCat (tVar 2) (tVar 3)) [some (.ref b), some (.ref l), some (.ref p1), some (.ref p2), none, none] G' ((picks (ts.length - 1) (fun i => decide (ts.getD i "" ∈ wordsIf)) ++ picks (ts.length - 1) (fun i => decide (ts.getD i "" ∈ classSteps))).map V.int) := fun G' x G3 x3 Q q => by
    have z1 := picks_len (ts.length - 1) fun i => decide (ts.getD i "" ∈ wordsIf)
    have z2 := picks_len (ts.length - 1) fun i => decide (ts.getD i "" ∈ classSteps)
    refine ⟨_, rfl, _, rfl, p1, p2, _, _, rfl, rfl, x3 _ _ (x _ _ e12), x3 _ _ (x _ _ e2), sz_of (by rw [List.length_map, List.length_map]; omega), fun p3 hp3 => q p3 _ hp3 (Evl.Ex.new hp3) ?_⟩
    rw [upd_same, List.map_append]
  refine q_when (et_test (ev_eqNilL (hcat G2 (Evl.Ex.refl G2)))) (fun e G3 x3 => ?_) (fun e G3 x3 => ?_)
  · exact s_ret ev_c fun G4 x4 => k0 rfl G4 (Le.of ((x12.trans x3).trans x4))
  have hp1b : p1 ≠ b := bag_ne hb hp1
  have hp2b : p2 ≠ b := bag_ne hb (fresh_back x1 hp2)
  have hb3 : Bag G3 b := (Le.of (x12.trans x3)).bag hb
  refine ⟨_, rfl, hcat G3 x3 G3 (Evl.Ex.refl G3) _ fun p3 G4 hp3 x4 e4 => ?_⟩
  have hb4 := (Le.of (b := b) x4).bag hb3
  have z1 := picks_len (ts.length - 1) fun i => decide (ts.getD i "" ∈ wordsIf)
  have z2 := picks_len (ts.length - 1) fun i => decide (ts.getD i "" ∈ classSteps)
  refine ⟨b, p3, _, rfl, hb4, bag_ne hb3 hp3, sq_of e4, (fun q => ?_), by rw [List.length_map, List.length_append]; omega, fun G5 x le5 hx => ?_⟩
  · rw [List.map_eq_nil_iff.mp q] at e; cases e
  obtain ⟨n, hn, rfl⟩ := List.mem_map.mp hx
  have leG5 : Le b H G5 := (Le.of ((x12.trans x3).trans x4)).trans le5
  have hb5 := leG5.bag hb
  have e15 : G5 p1 = some (.lst ((picks (ts.length - 1) fun i => decide (ts.getD i "" ∈ wordsIf)).map V.int)) := le5.keep _ _ hp1b (x4 _ _ (x3 _ _ e12))
  -- which place it is
  have key : ∃ i : Nat, i < ts.length - 1 ∧ n = ((i + 1 : Nat) : Int) ∧ (decide (n ∈ picks (ts.length - 1) fun i => decide (ts.getD i "" ∈ wordsIf)) = true → ts.getD i "" ∈ wordsIf) ∧ (decide (n ∈ picks (ts.length - 1) fun i => decide (ts.getD i "" ∈ wordsIf)) = false → ts.getD i "" ∈ classSteps) := by
    by_cases hm : n ∈ picks (ts.length - 1) fun i => decide (ts.getD i "" ∈ wordsIf)
    · obtain ⟨i, h1, h2, h3⟩ := picks_mem hm
      exact ⟨i, h1, h3, fun _ => of_decide_eq_true h2, fun q => by rw [decide_eq_true hm] at q; cases q⟩
    · rcases List.mem_append.mp hn with hn | hn
      · exact absurd hn hm
      · obtain ⟨i, h1, h2, h3⟩ := picks_mem hn
        exact ⟨i, h1, h3, (fun q => by rw [decide_eq_false hm] at q; cases q), fun _ => of_decide_eq_true h2⟩
  obtain ⟨i, hi, rfl, kW, kC⟩ := key
  have hi1 : ts[i]? = some (ts.getD i "") := by rw [List.getD_eq_getElem?_getD, List.getElem?_eq_getElem (by omega : i < ts.length)]; rfl
  have hi2 : ts[i + 1]? = some (ts.getD (i + 1) "") := by rw [List.getD_eq_getElem?_getD, List.getElem?_eq_getElem (by omega : i + 1 < ts.length)]; rfl
  have esp := split_at hi1 hi2
  -- behind the list of wrong words
  have rest : ∀ (ws : List Str) (p6 : Addr) (G6 : Hp), Le b H G6 → G6 p6 = some (.lst (ws.map V.str)) → p6 ≠ b → ws ≠ [] → ws.length ≤ 1000 → (∀ w ∈ ws, gTok w ∧ Spo (ts.take i ++ [ts.getD i ""] ++ w :: ts.drop (i + 2)) (i + 1)) →
      tRet (tTup (tCons (tOp rCat (tOp rCat (tSl (rSlL K) (tVar 1) tNoPart (tPart (tVar 4))) (tLst (tCons (tCall (sp_one K) [] E0 (tCons (tVar 0) (tCons (tVar 5) tNil))) tNil))) (tSl (rSlL K) (tVar 1) (tPart (tOp rAddI (tVar 4) (tC (.int 1)))) tNoPart)) (tCons (tVar 4) tNil))) { nx := fun _ H' => Q .non H', rt := Q } [some (.ref b), some (.ref l), some (.ref p1), some (.ref p2), some (.int ((i + 1 : Nat) : Int)), some (.ref p6)] G6 := by
    intro ws p6 G6 le6 e6 hp6 hw0 hw1 hws
    have hb6 := le6.bag hb
    refine s_retMid (b := b) (l2 := p6) (ws := ws) (ls := ts.take (i + 1)) (rs := ts.drop (i + 2)) (n := ((i + 1 : Nat) : Int)) hb6 (el_pre (ev_var rfl) (ev_var rfl) (sq_of (le6.keep _ _ hlb hl)) (by omega)) (fun G x Q q => ⟨_, rfl, _, rfl, q p6 G Le.refl hp6 (x _ _ e6)⟩) hw0 hw1
      (fun G le => el_suf (i := i + 2) (ev_var rfl) (ev_is (ev_add (ev_var rfl) ev_c) (by rw [show ((i + 1 : Nat) : Int) + 1 = ((i + 2 : Nat) : Int) by omega])) (sq_of ((le6.trans le).keep _ _ hlb hl))) (fun G le => ev_var rfl) (by rw [List.length_take, List.length_drop]; omega) fun G t q w hw le et eq hq => ?_
    obtain ⟨g1, g2⟩ := hws w hw
    have ets : ts.take (i + 1) ++ [w] ++ ts.drop (i + 2) = ts.take i ++ [ts.getD i ""] ++ w :: ts.drop (i + 2) := by rw [take_succ hi1]; simp
    rw [ets] at eq
    refine k G t q _ (i + 1) (le6.trans le) et eq hq g2 ?_ ?_
    · have := congrArg List.length esp
      simp only [List.length_append, List.length_cons, List.length_nil] at this ⊢
      omega
    · intro u hu
      simp only [List.mem_append, List.mem_cons, List.not_mem_nil, or_false] at hu
      rcases hu with (hu | hu) | hu | hu
      · exact hgt u (List.mem_of_mem_take hu)
      · rw [hu]; exact hgt _ (List.mem_of_getElem? hi1)
      · rw [hu]; exact g1
      · exact hgt u (List.mem_of_mem_drop hu)
  have hl0 : (ts.take i).length = i := by rw [List.length_take]; omega
  refine ⟨by show 4 ≤ sizeLine; decide, fun q1 hq1 => ?_⟩
  have x6 := Evl.Ex.new (o := .lst [.str "value", .str ";", .str "{", .str "aB"]) hq1
  refine et_test (ev_op (ev_var rfl) (ev_var rfl) (rv_isL (sq_of (x6 _ _ e15)) rfl (flat_ints _))) _ (Evl.Ex.refl _) _ fun G7 x7 => ?_
  rw [inV_ints]
  have x67 := x6.trans x7
  have hq1b : q1 ≠ b := bag_ne hb5 hq1
  cases hc : decide (((i + 1 : Nat) : Int) ∈ picks (ts.length - 1) fun i => decide (ts.getD i "" ∈ wordsIf)) with
  | true =>
    refine ⟨by show 3 ≤ sizeLine; decide, fun q2 hq2 => ⟨q1, q2, _, _, rfl, rfl, Evl.Ex.new hq2 _ _ (x7 _ _ upd_same), upd_same, by show 7 ≤ sizeLine; decide, fun q3 hq3 => ?_⟩⟩
    have x8 := x67.trans ((Evl.Ex.new (o := .lst [.str "super", .str "aqzmaqzma", .str "Aaaa"]) hq2).trans (Evl.Ex.new (o := .lst (wrongW.map V.str)) hq3))
    refine rest wrongW q3 _ (leG5.trans (Le.of x8)) upd_same (bag_ne ((Le.of (x67.trans (Evl.Ex.new (o := .lst [.str "super", .str "aqzmaqzma", .str "Aaaa"]) hq2))).bag hb5) hq3) (by decide) (by decide) fun w hw => ⟨gt_wrongW w hw, ?_⟩
    have hm := kW hc
    have := spo_word (b := bd) (l := ts.take i) (r := ts.drop (i + 2)) (w := ts.getD i "") (u := ts.getD (i + 1) "") (t := w) ok hd (by rw [hts]; exact esp) ((by decide : ∀ w ∈ wordsIf, w ∈ wordSteps ∨ w = "if") _ hm) hw
    rw [hl0] at this
    exact this
  | false =>
    refine ⟨by show 3 ≤ sizeLine; decide, fun q2 hq2 => ⟨q1, q2, _, _, rfl, rfl, Evl.Ex.new hq2 _ _ (x7 _ _ upd_same), upd_same, by show 7 ≤ sizeLine; decide, fun q3 hq3 => ?_⟩⟩
    have x8 := x67.trans ((Evl.Ex.new (o := .lst [.str "a", .str "aqzm", .str "ABc"]) hq2).trans (Evl.Ex.new (o := .lst (wrongC.map V.str)) hq3))
    refine rest wrongC q3 _ (leG5.trans (Le.of x8)) upd_same (bag_ne ((Le.of (x67.trans (Evl.Ex.new (o := .lst [.str "a", .str "aqzm", .str "ABc"]) hq2))).bag hb5) hq3) (by decide) (by decide) fun w hw => ⟨gt_wrongC w hw, ?_⟩
    have hm := kC hc
    have := spo_class (b := bd) (l := ts.take i) (r := ts.drop (i + 2)) (w := ts.getD i "") (u := ts.getD (i + 1) "") (t := w) ok hd (by rw [hts]; exact esp) hm hw
    rw [hl0] at this
    exact this
end
end Ef

namespace Ef
open PySem PySem.Spec PyProof.Rows L2 Evl
/-- what is found: tuples of tokens and a place -/
def Fnd (f b : Addr) (G : Hp) : List V → List (List Str × Nat) → Prop
  | [], [] => True
  | v :: vs, d :: ds => (∃ t p, v = .ref t ∧ G t = some (.tup [.ref p, .int (d.2 : Nat)]) ∧ G p = some (.lst (d.1.map V.str)) ∧ (p ≠ f ∧ p ≠ b) ∧ t ≠ f ∧ t ≠ b) ∧ Fnd f b G vs ds
  | _, _ => False
section
variable {K : PySem.W.Frag} {σ : L2.St} {H H1 H2 G G' : Hp} {ta tb te tl : TE} {t : TT} {v : V} {b r p f : Addr}
theorem vint {a c : Int} (h : a = c) : V.int a = V.int c := by rw [h]
theorem Fnd.mv (h : ∀ a o, a ≠ f → a ≠ b → G a = some o → G' a = some o) : ∀ (vs : List V) (ds : List (List Str × Nat)), Fnd f b G vs ds → Fnd f b G' vs ds
  | [], [], _ => trivial
  | [], _ :: _, x => x
  | _ :: _, [], x => x
  | v :: vs, d :: ds, ⟨⟨t, p, e, h1, h2, h3, h4⟩, x⟩ => ⟨⟨t, p, e, h t _ h4.1 h4.2 h1, h p _ h3.1 h3.2 h2, h3, h4⟩, Fnd.mv h vs ds x⟩
theorem Fnd.snoc {t p : Addr} {d : List Str × Nat} (h1 : G t = some (.tup [.ref p, .int (d.2 : Nat)])) (h2 : G p = some (.lst (d.1.map V.str))) (h3 : p ≠ f ∧ p ≠ b) (h4 : t ≠ f ∧ t ≠ b) : ∀ (vs : List V) (ds : List (List Str × Nat)), Fnd f b G vs ds → Fnd f b G (vs ++ [.ref t]) (ds ++ [d])
  | [], [], _ => ⟨⟨t, p, rfl, h1, h2, h3, h4⟩, trivial⟩
  | [], _ :: _, x => x.elim
  | _ :: _, [], x => x.elim
  | v :: vs, d :: ds, ⟨y, x⟩ => ⟨y, Fnd.snoc h1 h2 h3 h4 vs ds x⟩
theorem Fnd.mem : ∀ (vs : List V) (ds : List (List Str × Nat)), Fnd f b G vs ds → ∀ v ∈ vs, ∃ d ∈ ds, ∃ t p, v = .ref t ∧ G t = some (.tup [.ref p, .int (d.2 : Nat)]) ∧ G p = some (.lst (d.1.map V.str)) ∧ p ≠ b ∧ t ≠ b
  | [], [], _, v, hv => by cases hv
  | [], _ :: _, x, _, _ => x.elim
  | _ :: _, [], x, _, _ => x.elim
  | u :: vs, d :: ds, ⟨⟨t, p, e, h1, h2, h3, h4⟩, x⟩, v, hv => by
    rcases List.mem_cons.mp hv with rfl | hv
    · exact ⟨d, List.mem_cons_self, t, p, e, h1, h2, h3.2, h4.2⟩
    · obtain ⟨d', hd, z⟩ := Fnd.mem vs ds x v hv
      exact ⟨d', List.mem_cons_of_mem _ hd, z⟩
theorem Fnd.len : ∀ (vs : List V) (ds : List (List Str × Nat)), Fnd f b G vs ds → vs.length = ds.length
  | [], [], _ => rfl
  | [], _ :: _, x => x.elim
  | _ :: _, [], x => x.elim
  | v :: vs, d :: ds, ⟨_, x⟩ => by rw [List.length_cons, List.length_cons, Fnd.len vs ds x]
def fdat (d : List Str × Nat) : PyData := .tuple [.list (d.1.map PyData.str), .int (d.2 : Nat)]
theorem Fnd.dp : ∀ (vs : List V) (ds : List (List Str × Nat)), Fnd f b G vs ds → DpAll K G vs (ds.map fdat)
  | [], [], _ => .nil
  | [], _ :: _, x => x.elim
  | _ :: _, [], x => x.elim
  | v :: vs, d :: ds, ⟨⟨t, p, e, h1, h2, _, _⟩, x⟩ => by
    subst e
    exact .cons (.tup (st_of h1) (.cons (.lst (sq_of h2) (dps_strs _)) (.cons (.int _) .nil))) (Fnd.dp vs ds x)
theorem fdat_lay : ∀ ds : List (List Str × Nat), (∀ d ∈ ds, ∀ w ∈ d.1, Asc w) → PyData.canLayAll0 (ds.map fdat) = true
  | [], _ => by simp [PyData.canLayAll0]
  | d :: ds, h => by
    rw [List.map_cons]
    unfold fdat
    simp only [PyData.canLayAll0, PyData.canLay0]
    rw [lay_strs _ (h d List.mem_cons_self)]
    have ih := fdat_lay ds fun e he => h e (List.mem_cons_of_mem _ he)
    unfold fdat at ih
    rw [ih]; rfl
theorem fdat_depth : ∀ ds : List (List Str × Nat), PyData.depthAll (ds.map fdat) ≤ 3
  | [] => by simp [PyData.depthAll]
  | d :: ds => by
    have ih := fdat_depth ds
    rw [List.map_cons]
    unfold fdat at ih ⊢
    simp only [PyData.depthAll, PyData.depth]
    rw [depth_strs]
    omega
theorem fdat_shaped (ds : List (List Str × Nat)) (h : ∀ d ∈ ds, ∀ w ∈ d.1, Asc w) : SeqAt.shaped (.list (ds.map fdat)) = true := by
  unfold SeqAt.shaped
  rw [Bool.and_eq_true]
  refine ⟨by simp only [PyData.canLay0]; exact fdat_lay ds h, decide_eq_true ?_⟩
  simp only [PyData.depth]
  have := fdat_depth ds
  omega
/-- a good end of a walk for a token left out -/
def Lft (ts : List Str) (d : List Str × Nat) : Prop := Spo d.1 d.2 ∧ d.1.length ≤ ts.length + 1 ∧ ∀ u ∈ d.1, gTok u
theorem ev_oend {l : Addr} {ts q : List Str} {s by' : Int} {E : XK} {t1 t2 : TE} (h0 : Ev te σ H (.ref l)) (h1 : Ev t1 σ H (.int s)) (h2 : Ev t2 σ H (.int by')) (hl : H l = some (.lst (ts.map V.str))) (hz : ts.length ≤ 10000) (hby : by' = 1 ∨ by' = -1) (hq : Scan q) (hql : q.length ≤ ts.length)
    (hi : ∀ (j : Nat) u, q[j]? = some u → 0 ≤ s + j * by' ∧ ts[(s + j * by').toNat]? = some u) : Ev (tCall (sp_other_end K) [] E (tCons te (tCons t1 (tCons t2 tNil)))) σ H (.int (s + ((q.length : Int) - 1) * by')) :=
  ev_call (ea_cons h0 (ea_cons h1 (ea_cons h2 ea_nil))) fun G1 e Q k E => ⟨l, ts, s, by', q, rfl, sq_of (e _ _ hl), hz, hby, hq, hql, hi, fun G2 e2 => k G2 e2⟩
theorem get_right {α : Type} {l r : List α} {n j : Nat} {u : α} (h : r[j]? = some u) (hn : n = l.length + j) : (l ++ r)[n]? = some u := by
  subst hn
  rw [List.getElem?_append_right (by omega), show l.length + j - l.length = j by omega]; exact h
theorem get_left {α : Type} {l r : List α} {n : Nat} {u : α} (h : l[n]? = some u) : (l ++ r)[n]? = some u := by
  rw [List.getElem?_append_left (List.getElem?_eq_some_iff.mp h).1]; exact h
theorem pure__law_left_out (vs : List V) (H : Hp) (Q : VK) (E : XK) (h : (sp_left_out K) vs H Q E) : t__law_left_out K { nx := fun _ H' => Q .non H', rt := Q } (start ["_law_bag_here", "_law_tokens", "_law_found", "_law_at_here", "_law_token", "_law_end", "_law_first"] vs) H := by
  obtain ⟨b, l, bd, rfl, hb, hlb, hl, ok, hd, hlen, k0, k⟩ := h
  generalize hts : bd.toks = ts at *
  have hgt : ∀ t ∈ ts, gTok t := by rw [← hts]; exact gt_all ok
  refine q_asgL (el_lst ea_nil (by decide)) fun f G0 hf x0 e0 => ?_
  have hfb : f ≠ b := bag_ne hb hf
  refine q_forE (xs := ts.map V.str) (ea_cons (ev_var rfl) ea_nil) (sq_of (x0 _ _ hl)) (fun i σ G => ∃ (v3 v4 v5 v6 : Option V) (vs : List V) (ds : List (List Str × Nat)), σ = [some (.ref b), some (.ref l), some (.ref f), v3, v4, v5, v6] ∧ Evl.Ex H G ∧ G f = some (.lst vs) ∧ Fnd f b G vs ds ∧ ds.length ≤ i ∧ ∀ d ∈ ds, Lft ts d)
    (fun G1 x1 => ⟨none, none, none, none, [], [], rfl, x0.trans x1, x1 _ _ e0, trivial, Nat.le_refl _, fun d hd => by cases hd⟩) ?_ ?_ ?_
  · rintro i σ G _ ⟨v3, v4, v5, v6, vs, ds, rfl, xg, _⟩
    exact sq_of (xg _ _ hl)
  · rintro i y σ G G2 hi hy ⟨v3, v4, v5, v6, vs, ds, rfl, xg, hg, hF, hdl, hL⟩ x2
    rw [List.length_map] at hi
    have eu : ts[i]? = some ts[i] := List.getElem?_eq_getElem hi
    rw [List.getElem?_map, eu] at hy
    have ey : y = .str ts[i] := (Option.some.inj hy).symm
    subst ey
    generalize hu : ts[i] = u at *
    have next : ∀ (v5 v6 : Option V) (G' : Hp), Evl.Ex G G' → ∃ (v3 v4 v5' v6' : Option V) (vs : List V) (ds : List (List Str × Nat)), [some (V.ref b), some (.ref l), some (.ref f), some (.int (i : Nat)), some (.str u), v5, v6] = [some (.ref b), some (.ref l), some (.ref f), v3, v4, v5', v6'] ∧ Evl.Ex H G' ∧ G' f = some (.lst vs) ∧ Fnd f b G' vs ds ∧ ds.length ≤ i + 1 ∧ ∀ d ∈ ds, Lft ts d :=
      fun v5 v6 G' x => ⟨_, _, _, _, vs, ds, rfl, xg.trans x, x _ _ hg, Fnd.mv (fun a o _ _ h => x a o h) vs ds hF, by omega, hL⟩
    refine s_when (et_test (ev_isLs (x := u) (ys := lo) (ev_var rfl) (el_lst (ea_cons ev_c (ea_cons ev_c (ea_cons ev_c ea_nil))) (by show 3 ≤ 100000; decide)))) (fun e G3 x3 => ?_) (fun e G3 x3 => next _ _ G3 (x2.trans x3))
    have hlo := of_decide_eq_true e
    have edrop : ts.drop i = u :: ts.drop (i + 1) := by
      rw [← hu]; exact List.drop_eq_getElem_cons hi
    have esp : ts = ts.take i ++ u :: ts.drop (i + 1) := by rw [← edrop, List.take_append_drop]
    have hl1 : (ts.take i).length = i := by rw [List.length_take]; omega
    obtain ⟨c', c, l0, w, l2, Sx, oc', oc, e1, e2, hrun, _, hw0, h3, h4⟩ := good_of (b := bd) ok hd (by rw [hts]; exact esp) hlo
    have hli : i = l0.length + 1 + (curl c'.toks).length := by
      have := congrArg List.length e1
      rw [hl1, List.length_append, List.length_cons] at this
      omega
    have hlt : ts.length = i + 1 + (curl c.toks).length + l2.length := by
      have := congrArg List.length esp
      rw [List.length_append, List.length_cons, hl1, e2, List.length_append] at this
      omega
    have hq1 : 2 ≤ (curl c.toks).length := by rw [curl_len]; omega
    have hq2 : 2 ≤ (curl c'.toks).length := by rw [curl_len]; omega
    have x23 := x2.trans x3
    -- the end of the block behind
    refine q_asg (v := .int ((i : Int) + (curl c.toks).length)) (ev_is (ev_oend (q := curl c.toks) (s := (i : Int) + 1) (by' := 1) (ev_var rfl) (ev_add (ev_var rfl) ev_c) ev_c (x23 _ _ (xg _ _ hl)) (by omega) (.inl rfl) (scan_fwd oc) (by omega) fun j v hj => ⟨by omega, ?_⟩) (vint (by omega))) fun G4 x4 => ?_
    · rw [show ((i : Int) + 1 + (j : Int) * 1).toNat = i + (j + 1) by omega, esp, e2]
      exact get_right (l := ts.take i) (r := u :: (curl c.toks ++ l2)) (j := j + 1) (by show (curl c.toks ++ l2)[j]? = some v; exact get_left hj) (by rw [hl1])
    have x24 := x23.trans x4
    -- the begin of the block ahead
    refine q_asg (v := .int ((l0.length + 1 : Nat) : Int)) (ev_is (ev_oend (q := (curl c'.toks).reverse) (s := (i : Int) - 1) (by' := -1) (ev_var rfl) (ev_sub (ev_var rfl) ev_c) (ev_un ev_c ru_neg) (x24 _ _ (xg _ _ hl)) (by omega) (.inr rfl) (scan_back oc') (by rw [List.length_reverse]; omega) fun j v hj => ?_) (vint (by rw [List.length_reverse]; omega))) fun G5 x5 => ?_
    · have hj1 : j < (curl c'.toks).length := by
        have := (List.getElem?_eq_some_iff.mp hj).1
        rw [List.length_reverse] at this; exact this
      rw [List.getElem?_reverse hj1] at hj
      refine ⟨by omega, ?_⟩
      rw [show ((i : Int) - 1 + (j : Int) * -1).toNat = l0.length + (((curl c'.toks).length - 1 - j) + 1) by omega, esp, e1]
      refine get_left ?_
      exact get_right (l := l0) (r := w :: curl c'.toks) (j := ((curl c'.toks).length - 1 - j) + 1) hj rfl
    have x25 := x24.trans x5
    have hlS : SqL K G5 l (ts.map V.str) := sq_of (x25 _ _ (xg _ _ hl))
    have hwat : atI (ts.map V.str) (((l0.length : Nat)) : Int) = some (.str w) := atI_nat (by
      rw [List.getElem?_map, esp, e1]
      rw [get_left (get_right (l := l0) (r := w :: curl c'.toks) (n := l0.length) (j := 0) rfl rfl)]; rfl)
    have hdr : ts.drop (i + (curl c.toks).length + 1) = l2 := by
      rw [show i + (curl c.toks).length + 1 = (ts.take i ++ u :: curl c.toks).length by rw [List.length_append, List.length_cons, hl1]; omega]
      have z : ts = (ts.take i ++ u :: curl c.toks) ++ l2 := by rw [List.append_assoc, List.cons_append, ← e2]; exact esp
      have z2 : ((ts.take i ++ u :: curl c.toks) ++ l2).drop (ts.take i ++ u :: curl c.toks).length = l2 := List.drop_left
      rw [← z] at z2
      exact z2
    have gl2 : ∀ y ∈ l2, gTok y := fun y hy => hgt y (by
      rw [← hdr] at hy
      exact List.mem_of_mem_drop hy)
    refine s_when (b := !decide (u = "or") || (decide (w = "either") && !decide (l2.take 1 = [("or" : Str)]))) (et_or (et_is (et_test (ev_op (ev_var rfl) ev_c (rv_ne rfl))) (by rw [str_dec])) fun _ => et_and (et_strEq (ev_ix (ev_var rfl) (ev_is (ev_sub (ev_var rfl) ev_c) (w := .int ((l0.length : Nat) : Int)) (vint (by omega))) hlS hwat) ev_c) fun _ => et_test (ev_neStrs (a := l2.take 1) (c := ["or"]) (el_is (el_sl (lo := some (((i + (curl c.toks).length + 1 : Nat)) : Int)) (hi := some (((i + (curl c.toks).length + 1 + 1 : Nat)) : Int)) (ev_var rfl) (eo_some (ev_is (ev_add (ev_var rfl) ev_c) (vint (by omega)))) (eo_some (ev_is (ev_add (ev_var rfl) ev_c) (vint (by omega)))) hlS) (by rw [cut_one, ← List.map_drop, ← List.map_take, hdr])) (el_lst (ea_cons ev_c ea_nil) (by show 1 ≤ 100000; decide)) (fun y hy => asc_gt (gl2 y (List.mem_of_mem_take hy))) (by decide +kernel))) (fun ec G6 x6 => ?_) (fun ec G6 x6 => next _ _ G6 (x25.trans x6))
    -- it is noted
    have hS6 : ∀ G', Evl.Ex G6 G' → SqL K G' l (ts.map V.str) := fun G' x => ex_l (x6.trans x) hlS
    have x26 := x25.trans x6
    have spo : Spo (ts.take i ++ l2) i := by
      have := spo_left (l1 := ts.take i) (l2 := l2) (t := u) (w := w) hlo hrun h3 h4 (by
        rw [Bool.or_eq_true, Bool.and_eq_true] at ec
        rcases ec with ec | ⟨ec1, ec2⟩
        · exact .inl (by simpa using ec)
        · refine .inr ⟨of_decide_eq_true ec1, fun q => ?_⟩
          cases l2 with
          | nil => cases q
          | cons a l2 =>
            have : a = "or" := Option.some.inj q
            subst this
            simp at ec2)
      rw [hl1] at this
      exact this
    have elist : EvL (tOp rCat (tSl (rSlL K) (tVar 1) tNoPart (tPart (tVar 3))) (tSl (rSlL K) (tVar 1) (tPart (tOp rAddI (tVar 5) (tC (.int 1)))) tNoPart)) [some (.ref b), some (.ref l), some (.ref f), some (.int (i : Nat)), some (.str u), some (.int ((i : Int) + (curl c.toks).length)), some (.int ((l0.length + 1 : Nat) : Int))] G6 ((ts.take i ++ l2).map V.str) := by
      rw [List.map_append]
      refine el_cat (el_pre (ev_var rfl) (ev_var rfl) (hS6 G6 (Evl.Ex.refl G6)) (by omega)) ?_ (by rw [List.length_map, List.length_map, hl1]; omega)
      rw [← hdr]
      exact el_suf (ev_var rfl) (ev_is (ev_add (ev_var rfl) ev_c) (vint (by omega))) (hS6 G6 (Evl.Ex.refl G6))
    refine ⟨_, rfl, Or.inl ⟨rfl, _, sq_of (x26 _ _ hg)⟩, elist G6 (Evl.Ex.refl G6) _ fun p1 G7 hp1 x7 e7 => ⟨_, rfl, by show 2 ≤ sizeLine; decide, fun t1 ht1 => ⟨f, _, _, rfl, rfl, Evl.Ex.new ht1 _ _ (x7 _ _ (x26 _ _ hg)), ?_, ?_⟩⟩⟩
    · have := Fnd.len vs ds hF
      exact sz_lt (by omega)
    have x27 := x26.trans x7
    have hbG : Bag G b := (Le.of xg).bag hb
    have hp1f : p1 ≠ f := fun q => by
      have := x26 _ _ hg
      rw [q, this] at hp1; cases hp1
    have ht1f : t1 ≠ f := fun q => by
      have := x27 _ _ hg
      rw [q, this] at ht1; cases ht1
    have ht1p : p1 ≠ t1 := fun q => by rw [← q, e7] at ht1; cases ht1
    have x8 := Evl.Ex.new (o := .tup [.ref p1, .int (i : Nat)]) ht1
    refine ⟨_, _, _, _, vs ++ [.ref t1], ds ++ [(ts.take i ++ l2, i)], rfl, Evl.Ex.mut ((xg.trans x27).trans x8) hf, upd_same, ?_, by rw [List.length_append]; show ds.length + 1 ≤ _; omega, fun d hd => ?_⟩
    · refine Fnd.snoc (d := (ts.take i ++ l2, i)) (p := p1) ?_ ?_ ⟨hp1f, bag_ne ((Le.of x26).bag hbG) hp1⟩ ⟨ht1f, bag_ne ((Le.of x27).bag hbG) ht1⟩ vs ds (Fnd.mv (fun a o na _ h => by rw [upd_ne na]; exact x8 _ _ (x27 _ _ h)) vs ds hF)
      · rw [upd_ne ht1f, upd_same]
      · rw [upd_ne hp1f, upd_ne ht1p]; exact e7
    · rcases List.mem_append.mp hd with hd | hd
      · exact hL d hd
      · rw [List.mem_singleton.mp hd]
        refine ⟨spo, by rw [List.length_append, hl1]; omega, fun y hy => ?_⟩
        rcases List.mem_append.mp hy with hy | hy
        · exact hgt y (List.mem_of_mem_take hy)
        · exact gl2 y hy
  · rintro σ G ⟨v3, v4, v5, v6, vs, ds, rfl, xg, hg, hF, hdl, hL⟩
    rw [List.length_map] at hdl
    have hasc : ∀ d ∈ ds, ∀ w ∈ d.1, Asc w := fun d hd w hw => asc_gt ((hL d hd).2.2 w hw)
    have hvl := Fnd.len vs ds hF
    refine ⟨_, rfl, by decide, fun q hq => ⟨_, _, .lst (sq_of (Evl.Ex.new hq _ _ hg)) (Fnd.dp vs ds (Fnd.mv (fun a o _ _ h => Evl.Ex.new hq _ _ h) vs ds hF)), .lst (sq_of upd_same) .nil, fdat_shaped ds hasc, shaped_nil, _, rfl, ?_⟩⟩
    rw [eqv_nil, empty_map]
    have xq := Evl.Ex.new (o := .lst []) hq
    cases hds : ds.isEmpty with
    | true => exact k0 rfl _ (Le.of (xg.trans xq))
    | false =>
      have hb2 := (Le.of (xg.trans xq)).bag hb
      refine ⟨_, rfl, _, rfl, b, f, vs, rfl, hb2, hfb, sq_of (xq _ _ hg), (fun z => ?_), by omega, fun G5 x le5 hx => ?_⟩
      · rw [z] at hvl
        have : ds = [] := List.length_eq_zero_iff.mp hvl.symm
        rw [this] at hds; cases hds
      · obtain ⟨d, hd, t, p, rfl, h1, h2, h3, h4⟩ := Fnd.mem vs ds hF x hx
        obtain ⟨s1, s2, s3⟩ := hL d hd
        exact k G5 t p d.1 d.2 ((Le.of (xg.trans xq)).trans le5) (le5.keep _ _ h4 (xq _ _ h1)) (le5.keep _ _ h3 (xq _ _ h2)) h3 s1 s2 s3
end
end Ef

namespace Ef
open PySem PySem.Spec PyProof.Rows L2 Evl
section
variable {K : PySem.W.Frag} {σ : L2.St} {H H1 H2 G : Hp} {ta tb te tl : TE} {t : TT} {v : V} {b r p : Addr}
theorem seq_rest {A B : TS} {D : Ends} {P : L2.St → Hp → Prop} (hB : ∀ σ' G', P σ' G' → B D σ' G') (hA : (∀ σ' G', P σ' G' → B D σ' G') → A { D with nx := B D } σ G) : tSeq A B D σ G := hA hB
theorem et_notNone {i : Nat} (h : σ[i]? = some (some v)) : EvT (tTest (tOp rIsNotNo (tVar i) (tC .non))) σ H (!decide (v = .non)) := et_test (ev_op (ev_var h) ev_c fun H1 _ _ q => ⟨rfl, q H1 (Evl.Ex.refl H1)⟩)
theorem open_cut {l : List Str} (h : isOpen l = true) : (∃ (l0 : List Str) (t : Str), l = l0 ++ [t] ∧ t ≠ "}" ∧ t ≠ ";") ∨ 0 < bal l := by
  unfold isOpen at h
  simp only [Bool.and_eq_true, Bool.or_eq_true, Bool.not_eq_true', decide_eq_true_eq, decide_eq_false_iff_not] at h
  obtain ⟨h1, h2⟩ := h
  rcases h2 with h2 | h2
  · obtain ⟨l0, t, e, el⟩ := split_last (ts := l) (fun q => by rw [q] at h1; cases h1)
    rw [el] at h2
    exact .inl ⟨l0, t, e, fun q => h2 (by rw [q]; decide), fun q => h2 (by rw [q]; decide)⟩
  · right
    rw [bal_count]; omega
theorem pure__law_spoiled (vs : List V) (H : Hp) (Q : VK) (E : XK) (h : (sp_spoiled K) vs H Q E) : t__law_spoiled K { nx := fun _ H' => Q .non H', rt := Q } (start ["_law_bag_here", "_law_tokens", "_law_kind", "_law_at_here", "_law_found", "_law_some", "_law_cut", "_law_more"] vs) H := by
  obtain ⟨b, l, bd, rfl, hb, hlb, hl, ok, hd, hlen, _, k⟩ := h
  have hgt := gt_all ok
  have call : ∀ (i : Nat) (G : Hp) (s4 s5 : Option V) (kd at' : Int) (D : Ends), Le b H G → D.rt = Q → (∀ G', Le b H G' → D.nx [some (.ref b), some (.ref l), some (.int kd), some (.int at'), some .non, s5, none, none] G') →
      tSeq (tAsg (tCall (sp_spoil K true) [] E0 (tCons (tVar 0) (tCons (tVar 1) tNil))) (gName 4)) (tIfS (tTest (tOp rIsNotNo (tVar 4) (tC .non))) (tRet (tVar 4)) tNext) D [some (.ref b), some (.ref l), some (.int kd), some (.int at'), s4, s5, none, none] G := by
    intro i G s4 s5 kd at' D le hrt hnx
    refine ⟨_, rfl, _, rfl, b, l, bd, rfl, le.bag hb, hlb, le.keep _ _ hlb hl, ok, hd, hlen, fun _ G' le' => ?_, fun G' t p ts n le' h1 h2 h3 h4 h5 h6 => ?_⟩
    · exact s_when (et_notNone rfl) (fun e => by cases e) fun _ G2 x2 => hnx G2 ((le.trans le').trans (Le.of x2))
    · refine s_when (et_notNone rfl) (fun _ G2 x2 => ?_) fun e => by cases e
      refine s_ret (ev_var rfl) fun G3 x3 => ?_
      rw [hrt]
      have x := x2.trans x3
      exact k G3 t p ts n ((le.trans le').trans (Le.of x)) (x _ _ h1) (x _ _ h2) h3 h4 h5 h6
  refine ⟨_, rfl, b, 5, rfl, hb, by decide, by decide, fun G1 kd le1 kd0 kd1 => ⟨_, rfl, _, rfl, l, _, rfl, .inl (sq_of (le1.keep _ _ hlb hl)), _, _, rfl, rfl, b, _, rfl, le1.bag hb, by omega, by rw [List.length_map]; omega, fun G2 n le2 n0 n1 => ⟨_, _, rfl, ?_⟩⟩⟩
  rw [List.length_map] at n1
  obtain ⟨at', rfl⟩ := Int.eq_ofNat_of_zero_le n0
  have hat : at' ≤ bd.toks.length := by omega
  have leG2 : Le b H G2 := le1.trans le2
  -- the last way: one token more
  have fin : ∀ (G : Hp) (s4 s5 s6 s7 : Option V), Le b H G →
      tSeq (tAsg (tLst (tCons (tC (.str "}")) (tCons (tC (.str ")")) (tCons (tC (.str ";")) (tCons (tC (.str ",")) (tCons (tC (.str "{")) (tCons (tC (.str "init")) (tCons (tC (.str "else")) (tCons (tC (.str "catch")) (tCons (tC (.str "class")) (tCons (tC (.str "a")) (tCons (tC (.str "Aa")) tNil)))))))))))) (gName 7)) (tRet (tTup (tCons (tOp rCat (tVar 1) (tLst (tCons (tCall (sp_one K) [] E0 (tCons (tVar 0) (tCons (tVar 7) tNil))) tNil))) (tCons (tCB (rLenSq K) (tCons (tVar 1) tNil)) tNil)))) { nx := fun _ H' => Q .non H', rt := Q } [some (.ref b), some (.ref l), some (.int kd), some (.int (at' : Nat)), s4, s5, s6, s7] G := by
    intro G s4 s5 s6 s7 le
    refine ⟨by show 11 ≤ sizeLine; decide, fun q1 hq1 => ?_⟩
    have x1 := Evl.Ex.new (o := .lst (ends.map V.str)) hq1
    have le1 := le.trans (Le.of x1)
    have hb1 := le1.bag hb
    refine ⟨_, rfl, _, rfl, _, rfl, b, q1, ends.map V.str, rfl, hb1, bag_ne (le.bag hb) hq1, sq_of upd_same, (fun e => nomatch e), by decide, fun G3 x le3 hx => ?_⟩
    obtain ⟨w, hw, rfl⟩ := List.mem_map.mp hx
    have leG3 := le1.trans le3
    refine ⟨by show 1 ≤ sizeLine; decide, fun q2 hq2 => ?_⟩
    have leG4 := leG3.trans (Le.of (Evl.Ex.new (o := .lst [.str w]) hq2))
    refine ⟨l, q2, bd.toks.map V.str, [.str w], rfl, rfl, leG4.keep _ _ hlb hl, upd_same, sz_of (by rw [List.length_map]; show _ + 1 ≤ _; omega), fun q3 hq3 => ?_⟩
    have leG5 := leG4.trans (Le.of (Evl.Ex.new (o := .lst (bd.toks.map V.str ++ [.str w])) hq3))
    refine ⟨_, rfl, l, _, rfl, .inl (sq_of (leG5.keep _ _ hlb hl)), by show 2 ≤ sizeLine; decide, fun t ht => ?_⟩
    have xt := Evl.Ex.new (o := .tup [.ref q3, .int ((bd.toks.map V.str).length : Nat)]) ht
    refine k _ t q3 (bd.toks ++ [w]) bd.toks.length (leG5.trans (Le.of xt)) ?_ ?_ (bag_ne (leG4.bag hb) hq3) (spo_end ok hd hw) (by rw [List.length_append]; exact Nat.le_refl _) fun u hu => ?_
    · rw [upd_same, List.length_map]
    · rw [List.map_append]; exact xt _ _ upd_same
    · rcases List.mem_append.mp hu with hu | hu
      · exact hgt u hu
      · rw [List.mem_singleton.mp hu]; exact gt_ends w hw
  -- from the kind 0 on
  dsimp only
  refine seq_rest (P := fun σ G => ∃ s4, σ = [some (.ref b), some (.ref l), some (.int kd), some (.int (at' : Nat)), s4, none, none, none] ∧ Le b H G) ?_ fun rest => ?_
  case refine_2 =>
    refine s_if (et_intEq (ev_var rfl) ev_c) (fun e G3 x3 => ?_) (fun e G3 x3 => ?_)
    · exact call 4 G3 none none kd at' _ (leG2.trans (Le.of x3)) rfl fun G' le => rest _ G' ⟨_, rfl, le⟩
    · exact rest _ G3 ⟨_, rfl, leG2.trans (Le.of x3)⟩
  rintro σ G ⟨s4, rfl, le⟩
  refine q_when (et_intEq (ev_var rfl) ev_c) (fun e G3 x3 => ?_) (fun e G3 x3 => ?_)
  · have le3 := le.trans (Le.of x3)
    refine s_retMid (b := b) (l2 := b) (ws := odds) (ls := bd.toks.take at') (rs := bd.toks.drop at') (n := ((at' : Nat) : Int)) (le3.bag hb) (el_pre (ev_var rfl) (ev_var rfl) (sq_of (le3.keep _ _ hlb hl)) hat) (fun G4 x4 Q q => ⟨_, rfl, by show 7 ≤ sizeLine; decide, fun q1 hq1 => q q1 _ (Le.of (Evl.Ex.new hq1)) (bag_ne ((le3.trans (Le.of x4)).bag hb) hq1) upd_same⟩) (by decide) (by decide)
      (fun G4 le4 => el_suf (ev_var rfl) (ev_var rfl) (sq_of ((le3.trans le4).keep _ _ hlb hl))) (fun G4 le4 => ev_var rfl) (by rw [List.length_take, List.length_drop]; omega) fun G4 t q w hw le4 e1 e2 hq => ?_
    have hla : (bd.toks.take at').length = at' := by rw [List.length_take]; omega
    have sp := spo_odd (l := bd.toks.take at') (r := bd.toks.drop at') ok hd (List.take_append_drop _ _).symm hw
    rw [hla] at sp
    refine k G4 t q _ at' (le3.trans le4) e1 (by rw [e2, List.append_assoc]; rfl) hq sp ?_ fun u hu => ?_
    · rw [List.length_append, List.length_cons, List.length_take, List.length_drop]; omega
    · rcases List.mem_append.mp hu with hu | hu
      · exact hgt u (List.mem_of_mem_take hu)
      · rcases List.mem_cons.mp hu with rfl | hu
        · exact gt_odds _ hw
        · exact hgt u (List.mem_of_mem_drop hu)
  have leA := le.trans (Le.of x3)
  refine q_if (et_intEq (ev_var rfl) ev_c) (fun e1 G4 x4 => ?_) (fun e1 G4 x4 => ?_)
  · -- a cut
    have le4 := leA.trans (Le.of x4)
    have hl4 := le4.keep _ _ hlb hl
    have comp : EvL (tLc (iRng2 (tCons (tC (.int 1)) (tCons (tCB (rLenSq K) (tCons (tVar 1) tNil)) tNil))) (gName 6) (tB (tCall (sp_is_open K) [] E0 (tCons (tSl (rSlL K) (tVar 1) tNoPart (tPart (tVar 6))) tNil))) (tVar 6) [6]) [some (.ref b), some (.ref l), some (.int kd), some (.int (at' : Nat)), s4, none, none, none] G4 ((picks (bd.toks.length - 1) fun i => isOpen (bd.toks.take (i + 1))).map V.int) := by
      have z := el_lcR2 (σ := [some (.ref b), some (.ref l), some (.int kd), some (.int (at' : Nat)), s4, none, none, none]) (H := G4) (ta := tCons (tC (.int 1)) (tCons (tCB (rLenSq K) (tCons (tVar 1) tNil)) tNil)) (t := tB (tCall (sp_is_open K) [] E0 (tCons (tSl (rSlL K) (tVar 1) tNoPart (tPart (tVar 6))) tNil))) (te := tVar 6) (j := 6) (vs := [6]) (lo := 1) (n := ((bd.toks.map V.str).length : Int)) (fun i => isOpen (bd.toks.take (i + 1))) (fun i => .int (1 + (i : Int)))
        (ea_cons ev_c (ea_cons (ev_lenSq (ev_var rfl) (.inl (sq_of hl4))) ea_nil)) (by rw [List.length_map]; omega) (fun _ => rfl) (fun i G5 x5 hi => ?_) (fun i G5 x5 hi _ => ev_var rfl)
      · rw [given_picks] at z
        have e : (((bd.toks.map V.str).length : Int) - 1).toNat = bd.toks.length - 1 := by rw [List.length_map]; omega
        rw [e] at z
        exact z
      · rw [List.length_map] at hi
        intro G6 x6 Q' q'
        refine el_pre (i := i + 1) (ev_var rfl) (ev_is (ev_var rfl) (vint (by omega))) (sq_of (x5 _ _ hl4)) (by omega) G6 x6 _ fun p1 G7 hp1 x7 e7 => ⟨p1, bd.toks.take (i + 1), rfl, sq_of e7, by rw [List.length_take]; omega, fun t ht => asc_gt (hgt t (List.mem_of_mem_take ht)), fun G8 x8 => ⟨_, rfl, q' G8 (x7.trans x8)⟩⟩
    have zl := picks_len (bd.toks.length - 1) fun i => isOpen (bd.toks.take (i + 1))
    refine q_asgL comp fun p1 G5 hp1 x5 e5 => ?_
    have le5 := le4.trans (Le.of x5)
    have hp1b : p1 ≠ b := bag_ne (le4.bag hb) hp1
    refine s_when (et_test (ev_neNilI (ev_var rfl) e5)) (fun e6 G6 x6 => ?_) (fun e6 G6 x6 => ?_)
    · have le6 := le5.trans (Le.of x6)
      refine ⟨_, rfl, _, rfl, b, p1, _, rfl, le6.bag hb, hp1b, sq_of (x6 _ _ e5), (fun q => ?_), by rw [List.length_map]; omega, fun G7 x le7 hx => ?_⟩
      · rw [List.map_eq_nil_iff.mp q] at e6; cases e6
      obtain ⟨n, hn, rfl⟩ := List.mem_map.mp hx
      obtain ⟨i, hi, ho, rfl⟩ := picks_mem hn
      have leG7 := le6.trans le7
      refine el_pre (i := i + 1) (ev_var rfl) (ev_var rfl) (sq_of (leG7.keep _ _ hlb hl)) (by omega) G7 (Evl.Ex.refl G7) _ fun p2 G8 hp2 x8 e8 => ⟨_, rfl, by show 2 ≤ sizeLine; decide, fun t ht => ?_⟩
      have xt := Evl.Ex.new (o := .tup [.ref p2, .int ((i + 1 : Nat) : Int)]) ht
      have sp := spo_cut (l := bd.toks.take (i + 1)) (r := bd.toks.drop (i + 1)) ok hd (List.take_append_drop _ _).symm (open_cut ho)
      have hln : (bd.toks.take (i + 1)).length = i + 1 := by rw [List.length_take]; omega
      rw [hln] at sp
      exact k _ t p2 _ (i + 1) ((leG7.trans (Le.of x8)).trans (Le.of xt)) upd_same (xt _ _ e8) (bag_ne (leG7.bag hb) hp2) sp (by omega) fun u hu => hgt u (List.mem_of_mem_take hu)
    · have e1 := of_decide_eq_true e1
      subst e1
      exact q_when (et_intEq (ev_var rfl) ev_c) (fun e => by cases e) fun _ G7 x7 => fin G7 _ _ _ _ ((le5.trans (Le.of x6)).trans (Le.of x7))
  · have le4 := leA.trans (Le.of x4)
    refine q_if (et_intEq (ev_var rfl) ev_c) (fun e2 G5 x5 => ?_) (fun e2 G5 x5 => ?_)
    · exact call 2 G5 _ none kd at' _ (le4.trans (Le.of x5)) rfl fun G' le => fin G' _ _ _ _ le
    · exact fin G5 _ _ _ _ (le4.trans (Le.of x5))
end
end Ef

namespace Ef
open PySem PySem.Spec PyProof.Rows L2 Evl
theorem brc_le (t : Str) : brc t ≤ 1 := by
  unfold brc
  split
  · omega
  · split <;> omega
theorem first7 : ∀ (l : List Str) (a : Int), a ≤ 6 → (∃ l1 l2, l = l1 ++ l2 ∧ a + bal l1 = 7) → ∃ l1 t r, l = l1 ++ t :: r ∧ a + bal (l1 ++ [t]) = 7 ∧ ∀ p q, l1 = p ++ q → a + bal p ≤ 6
  | [], a, ha, ⟨l1, l2, e, h⟩ => by
    have : l1 = [] := (List.append_eq_nil_iff.mp e.symm).1
    subst this
    rw [bal] at h; omega
  | t :: l, a, ha, ⟨l1, l2, e, h⟩ => by
    by_cases h7 : a + brc t = 7
    · refine ⟨[], t, l, rfl, by rw [List.nil_append, bal, bal]; omega, fun p q e => ?_⟩
      have : p = [] := (List.append_eq_nil_iff.mp e.symm).1
      subst this
      rw [bal]; omega
    · have hle := brc_le t
      cases l1 with
      | nil => rw [bal] at h; omega
      | cons u l1 =>
        rw [List.cons_append] at e
        injection e with e1 e2
        subst e1
        rw [bal] at h
        obtain ⟨l1', t', r', e3, e4, e5⟩ := first7 l (a + brc t) (by omega) ⟨l1, l2, e2, by omega⟩
        refine ⟨t :: l1', t', r', by rw [e3]; rfl, by rw [List.cons_append, bal]; omega, fun p q e6 => ?_⟩
        cases p with
        | nil => rw [bal]; omega
        | cons u p =>
          rw [List.cons_append] at e6
          injection e6 with e7 e8
          subst e7
          have := e5 p q e8
          rw [bal]; omega
section
variable {K : PySem.W.Frag} {σ : L2.St} {H H1 H2 G : Hp} {ta tb te tl : TE} {t : TT} {v : V} {b r p : Addr}
theorem zip_snd' {α β : Type} : ∀ (l : List α) (r : List β), l.length = r.length → (l.zip r).map (·.2) = r
  | [], [], _ => rfl
  | a :: l, c :: r, h => by
    rw [List.zip_cons_cons, List.map_cons, zip_snd' l r (by simpa using h)]
  | [], _ :: _, h => by cases h
  | _ :: _, [], h => by cases h
theorem le2_ex' (x : Le2 b r H1 H2) (e : Evl.Ex H H1) (hb : H b = none) (hr : H r = none) : Evl.Ex H H2 := fun a o h => x.keep a o (ne_of_none h hb) (ne_of_none h hr) (e a o h)
theorem tokens_at {z : Str} {ps : List Int} {ts : List Str} {n : Nat} (h : tokens z = ps.zip ts) (hl : ps.length = ts.length) (hn : n ≤ ts.length) : atI ((ps ++ [(z.length : Int)]).map V.int) (n : Int) = some (.int (psAt (tokens z) z.length n)) := by
  refine atI_nat ?_
  unfold psAt
  rw [List.getElem?_map, h]
  rcases Nat.lt_or_ge n ts.length with q | q
  · rw [List.getElem?_append_left (by omega), List.getElem?_eq_getElem (by omega : n < ps.length), List.getElem?_eq_getElem (by rw [List.length_zip]; omega : n < (ps.zip ts).length), List.getElem_zip]; rfl
  · have : n = ps.length := by omega
    subst this
    have e : (ps.zip ts)[ps.length]? = none := List.getElem?_eq_none (by rw [List.length_zip]; omega)
    rw [List.getElem?_append_right (Nat.le_refl _), Nat.sub_self, e]; rfl
/-- a walk over a display of values, each of which P holds of; the turns only allocate -/
theorem s_forLP {P : V → Hp → Prop} {ta : TA} {n j : Nat} {tu : TS} {D : Ends} (up : Up P) (h : EvAP ta σ H n P) (hn : n ≤ 100000) (Pv : L2.St → Prop) (h0 : Pv σ)
    (hs : ∀ base y σ' G', Evl.Ex H base → Evl.Ex base G' → Pv σ' → P y G' → tu { D with nx := fun σ2 G2 => Evl.Ex base G2 ∧ Pv σ2, ct := fun σ2 G2 => Evl.Ex base G2 ∧ Pv σ2, bk := D.nx } (σ'.set j (some y)) G') (hd : ∀ σ' G', Evl.Ex H G' → Pv σ' → D.nx σ' G') : tFor (iList K (tLst ta)) (gName j) tu D σ H := by
  unfold tFor iList tLst
  refine h H (Evl.Ex.refl H) _ fun ws G1 x1 hl hP => ⟨sz_of (by omega), fun p hp => ⟨p, rfl, ⟨ws, sq_of upd_same⟩, ?_⟩⟩
  have xp := Evl.Ex.new (o := .lst ws) hp
  refine for_list (xs := ws) (fun i σ G => Evl.Ex (upd G1 p (.lst ws)) G ∧ Pv σ) ⟨Evl.Ex.refl _, h0⟩ ?_ ?_ ?_
  · rintro i σ G _ ⟨x, _⟩
    exact sq_of (x _ _ upd_same)
  · rintro i y σ' G hy ⟨x, hp⟩
    exact hs _ y σ' G (x1.trans xp) x hp (up _ _ _ (xp.trans x) (hP y (List.mem_of_getElem? hy)))
  · rintro σ' G ⟨x, hp⟩
    exact hd σ' G ((x1.trans xp).trans x) hp
theorem ev_at {z : Str} {p : Int} {E : XK} (h : Ev te σ H (.str z)) (hl : z.length ≤ 100000) (hR : Reads2 z (.bad p)) : Ev (tCall (sp_at K) [] E (tCons te tNil)) σ H (.int p) := fun G1 e Q q => h G1 e _ fun G2 e2 => .inl ⟨z, p, rfl, hl, hR, fun G3 e3 => q G3 (e2.trans e3)⟩
theorem et_neI {i j : Int} (ha : Ev ta σ H (.int i)) (hb : Ev tb σ H (.int j)) (h : i = j) : EvT (tTest (tOp rNe ta tb)) σ H false := et_is (et_test (ev_op ha hb (rv_ne rfl))) (by rw [int_dec, decide_eq_true h]; rfl)
theorem noStr_up : Up (fun v G => NoStr K G v) := fun v H H' e ⟨tv, h1, h2⟩ => ⟨tv, fun H1 x => h1 H1 (e.trans x), h2⟩
theorem noStr_tup {a : Addr} {xs : List V} (h : G a = some (.tup xs)) : NoStr K G (.ref a) := ⟨.type "tuple", fun H1 x => .base (.tup (x _ _ h)), by rfl⟩
theorem noStr_lst {a : Addr} {xs : List V} (h : G a = some (.lst xs)) : NoStr K G (.ref a) := ⟨.type "list", fun H1 x => .base (.lst (x _ _ h)), by rfl⟩
theorem evp_tupP {P P' : V → Hp → Prop} {ta : TA} {n : Nat} (h : EvAP ta σ H n P') (hn : n ≤ 100000) (p : ∀ G a xs, G a = some (.tup xs) → P (.ref a) G) : EvP (tTup ta) σ H P := fun H1 e Q q =>
  h H1 e _ fun vs H2 e2 hl _ => ⟨sz_of (by omega), fun a ha => q _ _ (e2.trans (Evl.Ex.new ha)) (p _ a vs upd_same)⟩
theorem up_true : Up (fun _ _ => True) := fun _ _ _ _ _ => trivial
theorem values_ok : EvAP (tCons (tC .non) (tCons (tC (.bl true)) (tCons (tC (.int 0)) (tCons (tUn rNegI (tC (.int 1))) (tCons (tTup tNil) (tCons (tTup (tCons (tC (.str "fail;")) tNil)) (tCons (tLst (tCons (tC (.str "fail;")) tNil)) (tCons (tTup (tCons (tTup (tCons (tC (.str "fail")) tNil)) tNil)) tNil)))))))) σ H 8 (fun v G => NoStr K G v) := by
  have one : ∀ w : Str, EvAP (tCons (tC (.str w)) tNil) σ H 1 (fun _ _ => True) := fun w => eap_cons up_true (evp_of ev_c fun _ => trivial) eap_nil
  refine eap_cons noStr_up (evp_of ev_c fun G => ⟨.type "NoneType", fun _ _ => .base .non, by rfl⟩) (eap_cons noStr_up (evp_of ev_c fun G => ⟨.type "bool", fun _ _ => .base (.bl _), by rfl⟩) (eap_cons noStr_up (evp_of ev_c fun G => ⟨.type "int", fun _ _ => .base (.int _), by rfl⟩) (eap_cons noStr_up (evp_of (ev_un ev_c ru_neg) fun G => ⟨.type "int", fun _ _ => .base (.int _), by rfl⟩) ?_)))
  refine eap_cons noStr_up (evp_tup (eu_tup ea_nil (by decide)) fun G a h => noStr_tup h) (eap_cons noStr_up (evp_tup (eu_tup (ea_cons ev_c ea_nil) (by show 1 ≤ 100000; decide)) fun G a h => noStr_tup h) (eap_cons noStr_up (evp_lst (el_lst (ea_cons ev_c ea_nil) (by show 1 ≤ 100000; decide)) fun G a h => noStr_lst h) (eap_cons noStr_up (evp_tupP (P' := fun _ _ => True) (n := 1) (eap_cons up_true (evp_tup (eu_tup (ea_cons ev_c ea_nil) (by show 1 ≤ 100000; decide)) fun _ _ _ => trivial) eap_nil) (by decide) fun G a xs h => noStr_tup h) eap_nil)))
theorem pure_law (vs : List V) (H : Hp) (Q : VK) (E : XK) (h : (sp_law K) vs H Q E) : t_law K { nx := fun _ H' => Q .non H', rt := Q } (start ["_law_script", "_law_value", "_law_at_here", "_law_bag_here", "_law_words_here", "_law_many", "_law_body_here", "_law_tokens", "_law_wrong", "_law_text", "_law_places", "_law_deep_here"] vs) H := by
  obtain ⟨a, ns, rfl, hS, hl, k⟩ := h
  refine seq_rest (P := fun σ G => ∃ v1, σ = [some (.ref a), v1, none, none, none, none, none, none, none, none, none, none] ∧ Evl.Ex H G) ?_ fun rest => ?_
  case refine_2 =>
    refine s_forLP (K := K) (noStr_up (K := K)) (values_ok (K := K)) (by decide) (fun σ => ∃ v1, σ = [some (.ref a), v1, none, none, none, none, none, none, none, none, none, none]) ⟨none, rfl⟩ ?_ ?_
    · rintro base y σ' G _ x ⟨v1, rfl⟩ hN
      refine s_when (b := false) (et_neI (i := -1) (j := -1) (fun G2 e2 Q q => ⟨_, rfl, .inr ⟨y, rfl, noStr_up _ _ _ e2 hN, fun G3 e3 => q G3 e3⟩⟩) (ev_un ev_c ru_neg) rfl) (fun e => by cases e) fun _ G2 x2 => ⟨x.trans x2, _, rfl⟩
    · rintro σ' G x ⟨v1, rfl⟩
      exact rest _ G ⟨v1, rfl, x⟩
  rintro σ G0 ⟨v1, rfl, x0⟩
  have hm : ∀ n : Nat, n ≤ 63 → 0 ≤ (if (if (n : Int) < 10 then (n : Int) else 10) > 1 then (if (n : Int) < 10 then (n : Int) else 10) else 1) ∧ (if (if (n : Int) < 10 then (n : Int) else 10) > 1 then (if (n : Int) < 10 then (n : Int) else 10) else 1) ≤ 10 := fun n h => by
    split <;> split <;> omega
  have hm1 := hm (ns.map V.int).length (by rw [List.length_map]; exact hl)
  refine q_forR1 (ea_cons (ev_max ev_c (ev_min ev_c (ev_lenSq (ev_var rfl) (.inl (ex_l x0 hS))))) ea_nil) ⟨hm1.1, by omega⟩ (fun i σ G => ∃ v1 v2 v3 v4 v5 v6 v7 v8 v9 v10 v11, σ = [some (.ref a), v1, v2, v3, v4, v5, v6, v7, v8, v9, v10, v11] ∧ SqL K G a (ns.map V.int)) (fun H1 x1 => ⟨_, _, _, _, _, _, _, _, _, _, _, rfl, ex_l (x0.trans x1) hS⟩) ?_ ?_
  · rintro i σ G hi ⟨v1, v2, v3, v4, v5, v6, v7, v8, v9, v10, v11, rfl, hG⟩
    refine ⟨_, rfl, _, rfl, a, ns, (i : Int), rfl, hG, hl, by omega, by omega, fun G1 b x1 hb0 hb1 => ?_⟩
    refine ⟨_, rfl, b, rfl, hb1, fun G2 w l2 hW => ⟨_, rfl, b, 7, rfl, l2.bag hb1, by decide, by decide, fun G3 m l3 m0 m1 => ⟨_, _, rfl, ?_⟩⟩⟩
    have hb2 := l2.bag hb1
    have hb3 := l3.bag hb2
    have x3 : Evl.Ex G G3 := le_ex x1 hb0 (l2.trans l3)
    obtain ⟨a1, a2, a3, n1, n2, n3, hw, q1, q2, q3, e1, e2, e3, zz, yy, f1, f2, f3⟩ := hW
    obtain ⟨ub, sb, eb, _⟩ := id hb2
    have wb : w ≠ b := ne_of hw eb (fun z => nomatch z)
    have hw3 := l3.keep _ _ wb hw
    have e13 := l3.keep _ _ q1 e1
    have e23 := l3.keep _ _ q2 e2
    have e33 := l3.keep _ _ q3 e3
    refine ⟨_, rfl, _, rfl, w, _, 0, _, rfl, rfl, st_of hw3, rfl, _, rfl, _, rfl, by show 1 ≤ sizeLine; decide, fun r hr => ?_⟩
    have xr := Evl.Ex.new (o := .lst [.int 30]) hr
    have hrb : r ≠ b := bag_ne hb3 hr
    have hb4 := (Le.of (b := b) xr).bag hb3
    have hrG : G r = none := fresh_back x3 hr
    have hwr : w ≠ r := ne_of_none hw3 hr
    refine ⟨_, rfl, _, _, rfl, rfl, (6 - m).toNat, by omega, b, w, r, 30, ?_, hb4, hrb, ⟨upd_same, by decide, by decide⟩, ⟨a1, a2, a3, n1, n2, n3, xr _ _ hw3, q1, q2, q3, xr _ _ e13, xr _ _ e23, xr _ _ e33, zz, yy, f1, f2, f3⟩,
      ⟨a1, a2, a3, n1, n2, n3, xr _ _ hw3, ne_of_none e13 hr, ne_of_none e23 hr, ne_of_none e33 hr, xr _ _ e13, xr _ _ e23, xr _ _ e33, zz, yy, f1, f2, f3⟩, fun u G5 c rm le5 rm5 hu ⟨ok5, dep5, tok5, ge5⟩ => ?_⟩
    · rw [show (((6 - m).toNat : Nat) : Int) = 6 - m by omega]; rfl
    have hb5 := le5.bag hb4
    have x5 : Evl.Ex G G5 := le2_ex' le5 (x3.trans xr) hb0 hrG
    have hw5 := le5.keep _ _ wb hwr (xr _ _ hw3)
    have e15 := le5.keep _ _ q1 (ne_of_none e13 hr) (xr _ _ e13)
    refine ⟨_, rfl, b, a1, n1, u, c, m, rfl, hb5, q1, e15, zz.1, yy.1, f1, hu, ok5, m0, by omega, fun v5 G6 bd le6 hv okB depB tokB => ?_⟩
    have hb6 := le6.bag hb5
    have x6 : Evl.Ex G G6 := le_ex x5 hb0 le6
    have rm0 := rm5.2
    have dB : bd.dep ≤ 6 := by omega
    have tB : bd.toks.length ≤ 720 := by omega
    refine ⟨_, rfl, _, rfl, v5, bd, hv, okB, by omega, by omega, rfl, fun G7 p x7 hp7 h7 => ?_⟩
    have hb7 := (Le.of (b := b) x7).bag hb6
    refine ⟨b, p, bd, rfl, hb7, bag_ne hb6 hp7, h7, okB, dB, by omega, (fun e => by cases e), fun G8 t q ts wr le8 ht hq hqb spo hts hgt => ⟨t, _, rfl, st_of ht, rfl, _, _, rfl, _, _, rfl, rfl, ?_⟩⟩
    have hb8 := le8.bag hb7
    have x8 : Evl.Ex G G8 := le_ex (x6.trans x7) hb0 le8
    have lew8 : Le b G5 G8 := (le6.trans (Le.of x7)).trans le8
    refine ⟨_, rfl, _, rfl, b, q, ts, rfl, hb8, hqb, hq, by omega, hgt, fun G9 t2 pl z ps le9 ht2 hpl hps htk hzl => ⟨t2, _, rfl, st_of ht2, rfl, _, _, rfl, _, _, rfl, rfl, ?_⟩⟩
    have hb9 := le9.bag hb8
    have x9 : Evl.Ex G G9 := le_ex x8 hb0 le9
    have htks : tks z = ts := by unfold tks; rw [htk]; exact zip_snd' _ _ hps
    have hzl2 : z.length ≤ 20000 := by omega
    have hat := tokens_at htk hps spo.le
    refine q_when (b := false) (et_neI (ev_at (ev_var rfl) (by omega) (spo.reads htks)) (fun G10 e10 Q q => ?_) rfl) (fun e => by cases e) fun _ G10 x10 => ?_
    · refine ⟨_, rfl, _, rfl, z, rfl, sz_of (by omega), by show 1 ≤ sizeLine; decide, fun q1 hq1 => ⟨pl, q1, ps.map V.int, [.int z.length], rfl, rfl, Evl.Ex.new hq1 _ _ (e10 _ _ hpl), upd_same, sz_of (by rw [List.length_map]; show _ + 1 ≤ _; omega), fun q2 hq2 => ⟨_, rfl, q2, _, _, _, rfl, rfl, sq_of upd_same, ?_, q _ ((Evl.Ex.new hq1).trans (Evl.Ex.new hq2))⟩⟩⟩
      rw [List.map_append] at hat
      exact hat
    -- seven blocks within one another
    have hb10 := (Le.of (b := b) x10).bag hb9
    have lew10 : Le b G5 G10 := (lew8.trans le9).trans (Le.of x10)
    have hw10 := lew10.keep _ _ wb hw5
    have e110 := lew10.keep _ _ q1 e15
    refine ⟨_, rfl, _, rfl, w, _, 0, _, rfl, rfl, st_of hw10, rfl, by show 1 ≤ sizeLine; decide, fun f1' hf1 => ⟨by show 1 ≤ sizeLine; decide, fun f2' hf2 => ?_⟩⟩
    have xf : Evl.Ex G10 (upd (upd G10 f1' (.tup [.str "fail"])) f2' (.tup [.ref f1'])) := (Evl.Ex.new hf1).trans (Evl.Ex.new hf2)
    have hF : Dp K (upd (upd G10 f1' (.tup [.str "fail"])) f2' (.tup [.ref f1'])) (.ref f2') (.tuple failB.dats) := by
      unfold failB
      rw [Bdy.dats, Bdy.dats, Stp.dat]
      exact .tup (st_of upd_same) (.cons (.tup (st_of (Evl.Ex.new hf2 _ _ upd_same)) (.cons (.str _) .nil)) .nil)
    have hb11 := (Le.of (b := b) xf).bag hb10
    refine ⟨b, a1, n1, .ref f2', failB, 7, rfl, hb11, q1, xf _ _ e110, zz.1, yy.1, f1, hF, failB_ok, by decide, by decide, fun v6 G12 td le12 hv12 okT depT tokT => ?_⟩
    have ftok : failB.toks.length = 2 := by unfold failB; rw [Bdy.toks, Bdy.toks, Stp.toks]; rfl
    rw [failB_dep] at depT
    have hb12 := le12.bag hb11
    have x12 : Evl.Ex G G12 := le_ex ((x9.trans x10).trans xf) hb0 le12
    refine ⟨v6, td, hv12, okT, by omega, by omega, rfl, fun G13 p13 x13 hp13 h13 => ?_⟩
    have hb13 := (Le.of (b := b) x13).bag hb12
    refine ⟨_, rfl, _, rfl, b, p13, td.toks, rfl, hb13, bag_ne hb12 hp13, h13, by omega, Bdy.gt td okT, fun G14 t14 pl2 z2 ps2 le14 ht14 hpl2 hps2 htk2 hzl2' => ⟨t14, _, rfl, st_of ht14, rfl, _, _, rfl, _, _, rfl, rfl, ?_⟩⟩
    have x14 : Evl.Ex G G14 := le_ex (x12.trans x13) hb0 le14
    have htks2 : tks z2 = td.toks := by unfold tks; rw [htk2]; exact zip_snd' _ _ hps2
    obtain ⟨l1, t7, r7, esp, e7, hle7⟩ := first7 td.toks 0 (by decide) (by
      obtain ⟨l1, l2, e, hbal⟩ := Bdy.reach td okT
      exact ⟨l1, l2, e, by rw [hbal]; omega⟩)
    have spo2 : Spo td.toks l1.length := spo_deep okT (by omega) esp (by omega) fun p q e => by have := hle7 p q e; omega
    have hlt7 : l1.length < td.toks.length := by rw [esp, List.length_append, List.length_cons]; omega
    have hat2 : atI (ps2.map V.int) ((l1.length : Nat) : Int) = some (.int (psAt (tokens z2) z2.length l1.length)) := by
      refine atI_nat ?_
      unfold psAt
      rw [List.getElem?_map, htk2, List.getElem?_eq_getElem (by omega : l1.length < ps2.length), List.getElem?_eq_getElem (by rw [List.length_zip]; omega : l1.length < (ps2.zip td.toks).length), List.getElem_zip]; rfl
    have h13' : G14 p13 = some (.lst (td.toks.map V.str)) := le14.keep _ _ (bag_ne hb12 hp13) h13
    refine s_when (b := false) (et_neI (ev_at (ev_var rfl) (by omega) (spo2.reads htks2)) (ev_ix (ev_var rfl) (ev_call (ea_cons (ev_var rfl) ea_nil) fun G15 e15 Q q E => ⟨p13, td.toks, l1, t7, r7, rfl, sq_of (e15 _ _ h13'), by omega, esp, by omega, fun p q e => by have := hle7 p q e; omega, fun G16 e16 => q G16 e16⟩) (sq_of hpl2) hat2) rfl) (fun e => by cases e) fun _ G15 x15 => ?_
    exact ⟨_, _, _, _, _, _, _, _, _, _, _, rfl, ex_l (x14.trans x15) hG⟩
  · rintro σ G ⟨v1, v2, v3, v4, v5, v6, v7, v8, v9, v10, v11, rfl, hG⟩
    exact k G
end
end Ef

/-! the row: scopes, derivations, the head; printed by gen2.py -/
namespace Ef
open PySem PySem.Spec PyProof.Rows L2
def top (i : Nat) : Stmt := PySem.Challenge.pw_earlyfields_k03_bodies_refused.main.body.getD i (.Pass ⟨0, 0, 0, 0⟩)
abbrev s_fits_word : Stmt := top 12
abbrev s_fits_class : Stmt := top 13
abbrev s_tokens_of : Stmt := top 14
abbrev s_Reader___init__ : Stmt := inClass (top 15) 0
abbrev s_Reader_peek : Stmt := inClass (top 15) 1
abbrev s_Reader_position : Stmt := inClass (top 15) 2
abbrev s_Reader_skip : Stmt := inClass (top 15) 3
abbrev s_Reader_read_word : Stmt := inClass (top 15) 4
abbrev s_Reader_read_class_name : Stmt := inClass (top 15) 5
abbrev s_read_block : Stmt := top 23
abbrev s_read_either : Stmt := top 24
abbrev s_read_nested : Stmt := top 25
abbrev s_read_step : Stmt := top 26
abbrev s_read_body : Stmt := top 27
abbrev s_read_steps : Stmt := top 28
abbrev s__law_bag : Stmt := top 30
abbrev s__law_draw : Stmt := top 31
abbrev s__law_one : Stmt := top 32
abbrev s__law_words : Stmt := top 33
abbrev s__law_labels : Stmt := top 34
abbrev s__law_step : Stmt := top 35
abbrev s__law_body : Stmt := top 36
abbrev s__law_start : Stmt := top 37
abbrev s__law_tower : Stmt := top 38
abbrev s__law_signs : Stmt := top 39
abbrev s__law_curly : Stmt := top 40
abbrev s__law_spread : Stmt := top 41
abbrev s__law_at : Stmt := top 42
abbrev s__law_is_open : Stmt := top 43
abbrev s__law_wrong_word : Stmt := top 44
abbrev s__law_deep : Stmt := top 45
abbrev s__law_other_end : Stmt := top 46
abbrev s__law_left_out : Stmt := top 47
abbrev s__law_spoiled : Stmt := top 48
abbrev s_law : Stmt := top 49
abbrev s_BadText___init__ : Stmt := inClass (top 3) 0
theorem sc_fits_word : FnScope ["token", "sign"] ["token"] (defScope s_fits_word) := ⟨rfl, rfl, rfl, by decide +kernel, rfl, by decide +kernel, by decide +kernel⟩
theorem sc_fits_class : FnScope ["token", "sign"] ["token"] (defScope s_fits_class) := ⟨rfl, rfl, rfl, by decide +kernel, rfl, by decide +kernel, by decide +kernel⟩
theorem sc_tokens_of : FnScope ["text", "rows", "begin", "finish"] ["text"] (defScope s_tokens_of) := ⟨rfl, rfl, rfl, by decide +kernel, rfl, by decide +kernel, by decide +kernel⟩
theorem sc_Reader___init__ : FnScope ["self", "text"] ["self", "text"] (defScope s_Reader___init__) := ⟨rfl, rfl, rfl, by decide +kernel, rfl, by decide +kernel, by decide +kernel⟩
theorem sc_Reader_peek : FnScope ["self"] ["self"] (defScope s_Reader_peek) := ⟨rfl, rfl, rfl, by decide +kernel, rfl, by decide +kernel, by decide +kernel⟩
theorem sc_Reader_position : FnScope ["self"] ["self"] (defScope s_Reader_position) := ⟨rfl, rfl, rfl, by decide +kernel, rfl, by decide +kernel, by decide +kernel⟩
theorem sc_Reader_skip : FnScope ["self", "wanted"] ["self", "wanted"] (defScope s_Reader_skip) := ⟨rfl, rfl, rfl, by decide +kernel, rfl, by decide +kernel, by decide +kernel⟩
theorem sc_Reader_read_word : FnScope ["self", "token"] ["self"] (defScope s_Reader_read_word) := ⟨rfl, rfl, rfl, by decide +kernel, rfl, by decide +kernel, by decide +kernel⟩
theorem sc_Reader_read_class_name : FnScope ["self", "token"] ["self"] (defScope s_Reader_read_class_name) := ⟨rfl, rfl, rfl, by decide +kernel, rfl, by decide +kernel, by decide +kernel⟩
theorem sc_read_block : FnScope ["reader", "depth", "body"] ["reader", "depth"] (defScope s_read_block) := ⟨rfl, rfl, rfl, by decide +kernel, rfl, by decide +kernel, by decide +kernel⟩
theorem sc_read_either : FnScope ["reader", "depth", "blocks"] ["reader", "depth"] (defScope s_read_either) := ⟨rfl, rfl, rfl, by decide +kernel, rfl, by decide +kernel, by decide +kernel⟩
theorem sc_read_nested : FnScope ["reader", "word", "depth", "first", "name"] ["reader", "word", "depth"] (defScope s_read_nested) := ⟨rfl, rfl, rfl, by decide +kernel, rfl, by decide +kernel, by decide +kernel⟩
theorem sc_read_step : FnScope ["reader", "depth", "word", "step"] ["reader", "depth"] (defScope s_read_step) := ⟨rfl, rfl, rfl, by decide +kernel, rfl, by decide +kernel, by decide +kernel⟩
theorem sc_read_body : FnScope ["reader", "depth", "steps"] ["reader", "depth"] (defScope s_read_body) := ⟨rfl, rfl, rfl, by decide +kernel, rfl, by decide +kernel, by decide +kernel⟩
theorem sc_read_steps : FnScope ["text", "reader", "body"] ["text"] (defScope s_read_steps) := ⟨rfl, rfl, rfl, by decide +kernel, rfl, by decide +kernel, by decide +kernel⟩
theorem sc__law_bag : FnScope ["_law_script", "_law_at_here", "_law_cell", "_law_seed", "_law_turn", "_law_each"] ["_law_script", "_law_at_here"] (defScope s__law_bag) := ⟨rfl, rfl, rfl, by decide +kernel, rfl, by decide +kernel, by decide +kernel⟩
theorem sc__law_draw : FnScope ["_law_bag_here", "_law_many", "_law_digit"] ["_law_bag_here", "_law_many"] (defScope s__law_draw) := ⟨rfl, rfl, rfl, by decide +kernel, rfl, by decide +kernel, by decide +kernel⟩
theorem sc__law_one : FnScope ["_law_bag_here", "_law_some"] ["_law_bag_here", "_law_some"] (defScope s__law_one) := ⟨rfl, rfl, rfl, by decide +kernel, rfl, by decide +kernel, by decide +kernel⟩
theorem sc__law_words : FnScope ["_law_bag_here", "_law_many", "_law_left", "_law_stem", "_law_found", "_law_turn", "_law_is_ahead", "_law_sign"] ["_law_bag_here", "_law_many"] (defScope s__law_words) := ⟨rfl, rfl, rfl, by decide +kernel, rfl, by decide +kernel, by decide +kernel⟩
theorem sc__law_labels : FnScope ["_law_bag_here", "_law_many", "_law_left", "_law_stem", "_law_found", "_law_turn"] ["_law_bag_here", "_law_many"] (defScope s__law_labels) := ⟨rfl, rfl, rfl, by decide +kernel, rfl, by decide +kernel, by decide +kernel⟩
theorem sc__law_step : FnScope ["_law_bag_here", "_law_words_here", "_law_room", "_law_depth", "_law_kind", "_law_blocks", "_law_turn"] ["_law_bag_here", "_law_words_here", "_law_room", "_law_depth"] (defScope s__law_step) := ⟨rfl, rfl, rfl, by decide +kernel, rfl, by decide +kernel, by decide +kernel⟩
theorem sc__law_body : FnScope ["_law_bag_here", "_law_words_here", "_law_room", "_law_depth", "_law_steps", "_law_turn"] ["_law_bag_here", "_law_words_here", "_law_room", "_law_depth"] (defScope s__law_body) := ⟨rfl, rfl, rfl, by decide +kernel, rfl, by decide +kernel, by decide +kernel⟩
theorem sc__law_start : FnScope ["_law_bag_here", "_law_names", "_law_methods", "_law_labels_here"] ["_law_bag_here"] (defScope s__law_start) := ⟨rfl, rfl, rfl, by decide +kernel, rfl, by decide +kernel, by decide +kernel⟩
theorem sc__law_tower : FnScope ["_law_bag_here", "_law_names", "_law_body_here", "_law_many", "_law_turn", "_law_kind", "_law_pair", "_law_step_here", "_law_blocks"] ["_law_bag_here", "_law_names", "_law_body_here", "_law_many"] (defScope s__law_tower) := ⟨rfl, rfl, rfl, by decide +kernel, rfl, by decide +kernel, by decide +kernel⟩
theorem sc__law_signs : FnScope ["_law_body_here", "_law_found", "_law_step_here", "_law_at_here", "_law_block"] ["_law_body_here"] (defScope s__law_signs) := ⟨rfl, rfl, rfl, by decide +kernel, rfl, by decide +kernel, by decide +kernel⟩
theorem sc__law_curly : FnScope ["_law_body_here"] ["_law_body_here"] (defScope s__law_curly) := ⟨rfl, rfl, rfl, by decide +kernel, rfl, by decide +kernel, by decide +kernel⟩
theorem sc__law_spread : FnScope ["_law_bag_here", "_law_tokens", "_law_text", "_law_places", "_law_at_here", "_law_token"] ["_law_bag_here", "_law_tokens"] (defScope s__law_spread) := ⟨rfl, rfl, rfl, by decide +kernel, rfl, by decide +kernel, by decide +kernel⟩
theorem sc__law_at : FnScope ["_law_text", "e"] ["_law_text"] (defScope s__law_at) := ⟨rfl, rfl, rfl, by decide +kernel, rfl, by decide +kernel, by decide +kernel⟩
theorem sc__law_is_open : FnScope ["_law_tokens"] ["_law_tokens"] (defScope s__law_is_open) := ⟨rfl, rfl, rfl, by decide +kernel, rfl, by decide +kernel, by decide +kernel⟩
theorem sc__law_wrong_word : FnScope ["_law_bag_here", "_law_tokens", "_law_some", "_law_more", "_law_at_here", "_law_wrong"] ["_law_bag_here", "_law_tokens"] (defScope s__law_wrong_word) := ⟨rfl, rfl, rfl, by decide +kernel, rfl, by decide +kernel, by decide +kernel⟩
theorem sc__law_deep : FnScope ["_law_tokens", "_law_depth", "_law_at_here", "_law_token"] ["_law_tokens"] (defScope s__law_deep) := ⟨rfl, rfl, rfl, by decide +kernel, rfl, by decide +kernel, by decide +kernel⟩
theorem sc__law_other_end : FnScope ["_law_tokens", "_law_at_here", "_law_by", "_law_depth", "_law_turn"] ["_law_tokens", "_law_at_here", "_law_by"] (defScope s__law_other_end) := ⟨rfl, rfl, rfl, by decide +kernel, rfl, by decide +kernel, by decide +kernel⟩
theorem sc__law_left_out : FnScope ["_law_bag_here", "_law_tokens", "_law_found", "_law_at_here", "_law_token", "_law_end", "_law_first"] ["_law_bag_here", "_law_tokens"] (defScope s__law_left_out) := ⟨rfl, rfl, rfl, by decide +kernel, rfl, by decide +kernel, by decide +kernel⟩
theorem sc__law_spoiled : FnScope ["_law_bag_here", "_law_tokens", "_law_kind", "_law_at_here", "_law_found", "_law_some", "_law_cut", "_law_more"] ["_law_bag_here", "_law_tokens"] (defScope s__law_spoiled) := ⟨rfl, rfl, rfl, by decide +kernel, rfl, by decide +kernel, by decide +kernel⟩
theorem sc_law : FnScope ["_law_script", "_law_value", "_law_at_here", "_law_bag_here", "_law_words_here", "_law_many", "_law_body_here", "_law_tokens", "_law_wrong", "_law_text", "_law_places", "_law_deep_here"] ["_law_script"] (defScope s_law) := ⟨rfl, rfl, rfl, by decide +kernel, rfl, by decide +kernel, by decide +kernel⟩
theorem sc_BadText___init__ : FnScope ["self", "at"] ["self", "at"] (defScope s_BadText___init__) := ⟨rfl, rfl, rfl, by decide +kernel, rfl, by decide +kernel, by decide +kernel⟩
structure Tx (K : PySem.W.Frag) (mg : Str → Option Value) : Prop where
  n_len : mg "len" = none
  n_all : mg "all" = none
  n_tuple : mg "tuple" = none
  n_str : mg "str" = none
  n_isinstance : mg "isinstance" = none
  n_enumerate : mg "enumerate" = none
  n_int : mg "int" = none
  n_abs : mg "abs" = none
  n_list : mg "list" = none
  n_range : mg "range" = none
  n_min : mg "min" = none
  n_max : mg "max" = none
  c_SMALL : ∃ u, mg "SMALL" = some u ∧ RelV (.str "abcdefghijklmnopqrstuvwxyz") u
  c_LARGE : ∃ u, mg "LARGE" = some u ∧ RelV (.str "ABCDEFGHIJKLMNOPQRSTUVWXYZ") u
  c_LETTERS : ∃ u, mg "LETTERS" = some u ∧ RelV (.str "abcdefghijklmnopqrstuvwxyzABCDEFGHIJKLMNOPQRSTUVWXYZ") u
  c_BLANKS : ∃ u, mg "BLANKS" = some u ∧ RelV (.str " \n") u
  c_MOST_LETTERS : ∃ u, mg "MOST_LETTERS" = some u ∧ RelV (.int 8) u
  c_RESERVED : ∃ u, mg "RESERVED" = some u ∧ RelV (.ref (He.ga K "RESERVED")) u
  q_RESERVED : ∀ H, SqT K H (He.ga K "RESERVED") (reserved.map V.str)
  c_WORD_STEPS : ∃ u, mg "WORD_STEPS" = some u ∧ RelV (.ref (He.ga K "WORD_STEPS")) u
  q_WORD_STEPS : ∀ H, SqT K H (He.ga K "WORD_STEPS") (wordSteps.map V.str)
  c_CLASS_STEPS : ∃ u, mg "CLASS_STEPS" = some u ∧ RelV (.ref (He.ga K "CLASS_STEPS")) u
  q_CLASS_STEPS : ∀ H, SqT K H (He.ga K "CLASS_STEPS") (classSteps.map V.str)
  c_NESTED_STEPS : ∃ u, mg "NESTED_STEPS" = some u ∧ RelV (.ref (He.ga K "NESTED_STEPS")) u
  q_NESTED_STEPS : ∀ H, SqT K H (He.ga K "NESTED_STEPS") (nestedSteps.map V.str)
  c_STARTS : ∃ u, mg "STARTS" = some u ∧ RelV (.ref (He.ga K "STARTS")) u
  q_STARTS : ∀ H, SqT K H (He.ga K "STARTS") (startSteps.map V.str)
  c_MOST_BLOCKS : ∃ u, mg "MOST_BLOCKS" = some u ∧ RelV (.int 6) u
  c_EarlyError : ∃ u, mg "EarlyError" = some u ∧ RelV (.ref (He.ga K "EarlyError")) u
  c_TooMany : ∃ u, mg "TooMany" = some u ∧ RelV (.ref (He.ga K "TooMany")) u
  cl_Reader : Cls K (He.ga K "Reader")
  no_Reader_tokens : NoAttr K (He.ga K "Reader") "tokens"
  no_Reader_length : NoAttr K (He.ga K "Reader") "length"
  no_Reader_passed : NoAttr K (He.ga K "Reader") "passed"
  mk_Reader : Mk K (He.ga K "Reader") (He.ma K (He.ga K "Reader") "__init__")
  g_Reader : mg "Reader" = some (.ref (He.ga K "Reader"))
  mt_Reader_peek : Meth K (He.ga K "Reader") "peek" (He.ma K (He.ga K "Reader") "peek")
  mt_Reader_position : Meth K (He.ga K "Reader") "position" (He.ma K (He.ga K "Reader") "position")
  mt_Reader_skip : Meth K (He.ga K "Reader") "skip" (He.ma K (He.ga K "Reader") "skip")
  mt_Reader_read_word : Meth K (He.ga K "Reader") "read_word" (He.ma K (He.ga K "Reader") "read_word")
  mt_Reader_read_class_name : Meth K (He.ga K "Reader") "read_class_name" (He.ma K (He.ga K "Reader") "read_class_name")
  g_BadText : mg "BadText" = some (.ref (He.ga K "BadText"))
  ox_BadText : OexC K (He.ga K "BadText")
  oi_BadText : OexI K (He.ga K "BadText")
  ix_BadText : IsxC K (He.ga K "BadText")
  no_BadText_at : NoAttr K (He.ga K "BadText") "at"
  k1 : PySem.W.exmOne K (.ref (He.ga K "BadText")) (.ref (He.ga K "BadText")) = some true
  k2 : PySem.W.kitOne K (.ref (He.ga K "BadText")) (.ref (He.ga K "EarlyError")) = some true
  k3 : PySem.W.kitOne K (.ref (He.ga K "BadText")) (.ref (He.ga K "TooMany")) = some false
section
variable {P : Program} {w : World} {K : PySem.W.Frag} {mg : Str → Option Value} {base : Heap} {k : Nat}
theorem ok_BadText (T : Tx K mg) (F : FnM K "BadText" "__init__" "BadText.__init__" s_BadText___init__) : Err P w K mg base (k + 1) "BadText" ["at"] := by
  refine err_mk F T.g_BadText T.ox_BadText T.oi_BadText sc_BadText___init__ (fun vs H Q E h => len_err h) (fun _ _ _ _ _ _ us hl => match us, hl with | [_, _], _ => rfl) (fun cdv A outer s H vs Q E hr h => ⟨t_err1 K "at", ?_, pure_err1 T.ox_BadText T.no_BadText_at vs H Q E h⟩)
  exact pss_one (ps_ost (pv 0) (pv 1))
theorem ok_fits_word (T : Tx K mg) (F : FnP K "fits_word" s_fits_word) (g : mg "fits_word" = some (.ref (He.ga K "fits_word"))) : Cal P w K mg base CX0 (k + 2) "fits_word" ["token"] sp_fits_word := by
  refine cal_mk F g sc_fits_word (fun vs H Q E h => len_spText1 h) (fun _ _ _ _ _ _ us hl => match us, hl with | [_], _ => rfl) (fun cdv A outer s H vs Q E hr h => ⟨t_fits_word K, ?_, pure_fits_word T.q_RESERVED vs H Q E h⟩)
  exact pss_cons (ps_if ((pw_or (pt_not (pt_chain op_le op_le pe_int (pe_callB call_len_str (by rfl) T.n_len (by decide +kernel) (pa_cons (pv 0) pa_nil)) (pe_gc (by rfl) T.c_MOST_LETTERS))) (pw_or1 (pt_cmpR op_in_seq (pv 0) (pe_gc (by rfl) T.c_RESERVED) (by rfl)))).pt) (pss_one (ps_ret pe_bl)) pss_nil)
      (pss_one (ps_ret (pe_callB (cr_all rfl) (by rfl) T.n_all (by decide +kernel) (pa_cons (pe_lc (own := [("sign", 1)]) (g := gName 1) (tt := tYes) rfl sc_fits_word.nd (pi_str (pv 0)) (blkOk_by (own := [("sign", 1)]) (N := ["token", "sign"]) (sc := defScope s_fits_word) (by decide +kernel)) (fun _ _ _ _ _ => pg_name (i := 1) sc_fits_word.nd rfl (.inl rfl)) (fun _ _ _ _ _ => pts_nil) (fun _ _ _ _ _ => pe_cmpR op_in_sign (pv 1) (pe_gc (by rfl) T.c_SMALL) (by rfl))) pa_nil))))
theorem ok_fits_class (T : Tx K mg) (F : FnP K "fits_class" s_fits_class) (g : mg "fits_class" = some (.ref (He.ga K "fits_class"))) : Cal P w K mg base CX0 (k + 2) "fits_class" ["token"] sp_fits_class := by
  refine cal_mk F g sc_fits_class (fun vs H Q E h => len_spText1 h) (fun _ _ _ _ _ _ us hl => match us, hl with | [_], _ => rfl) (fun cdv A outer s H vs Q E hr h => ⟨t_fits_class K, ?_, pure_fits_class  vs H Q E h⟩)
  exact pss_cons (ps_if ((pw_or (pt_not (pt_chain op_le op_le pe_int (pe_callB call_len_str (by rfl) T.n_len (by decide +kernel) (pa_cons (pv 0) pa_nil)) (pe_gc (by rfl) T.c_MOST_LETTERS))) (pw_or1 (pt_cmpR op_notIn_sign (pe_ix ix_str (pv 0) pe_int (fun _ _ => rfl)) (pe_gc (by rfl) T.c_LARGE) (by rfl)))).pt) (pss_one (ps_ret pe_bl)) pss_nil)
      (pss_one (ps_ret (pe_callB (cr_all rfl) (by rfl) T.n_all (by decide +kernel) (pa_cons (pe_lc (own := [("sign", 1)]) (g := gName 1) (tt := tYes) rfl sc_fits_class.nd (pi_str (pe_slice sl_str (pv 0) (po_some pe_int) po_none)) (blkOk_by (own := [("sign", 1)]) (N := ["token", "sign"]) (sc := defScope s_fits_class) (by decide +kernel)) (fun _ _ _ _ _ => pg_name (i := 1) sc_fits_class.nd rfl (.inl rfl)) (fun _ _ _ _ _ => pts_nil) (fun _ _ _ _ _ => pe_cmpR op_in_sign (pv 1) (pe_gc (by rfl) T.c_SMALL) (by rfl))) pa_nil))))
theorem ok_tokens_of (T : Tx K mg) (F : FnP K "tokens_of" s_tokens_of) (g : mg "tokens_of" = some (.ref (He.ga K "tokens_of"))) : Cal P w K mg base CX0 (k + 2) "tokens_of" ["text"] sp_tokens_of := by
  refine cal_mk F g sc_tokens_of (fun vs H Q E h => len_tokens_of h) (fun _ _ _ _ _ _ us hl => match us, hl with | [_], _ => rfl) (fun cdv A outer s H vs Q E hr h => ⟨t_tokens_of K, ?_, pure_tokens_of  vs H Q E h⟩)
  exact pss_cons (ps_par (i := 1) (j := 2) (by rfl) sc_tokens_of.nd rfl rfl (by decide) rfl rfl (pa_cons (pe_lst pa_nil) (pa_cons pe_int pa_nil)) (by rfl))
      (pss_cons (ps_while PassesOwn.never (pt_cmpR op_lt (pv 2) (pe_callB call_len_str (by rfl) T.n_len (by decide +kernel) (pa_cons (pv 0) pa_nil)) (nomark _))
      (pss_cons (ps_set (i := 3) sc_tokens_of.nd rfl (.inl rfl) (pe_op op_add (pv 2) pe_int))
      (pss_cons (ps_if (pt_cmpR op_in_sign (pe_ix ix_str (pv 0) (pv 2) (fun _ _ => rfl)) (pe_gc (by rfl) T.c_LETTERS) (by rfl)) (pss_one (ps_while PassesOwn.never ((pw_and (pt_cmpR op_lt (pv 3) (pe_callB call_len_str (by rfl) T.n_len (by decide +kernel) (pa_cons (pv 0) pa_nil)) (nomark _)) (pw_and1 (pt_cmpR op_in_sign (pe_ix ix_str (pv 0) (pv 3) (fun _ _ => rfl)) (pe_gc (by rfl) T.c_LETTERS) (by rfl)))).pt)
      (pss_one (ps_aug (i := 3) sc_tokens_of.nd rfl (.inl rfl) pe_int ip_add)))) pss_nil)
      (pss_cons (ps_if (pt_cmpR op_notIn_sign (pe_ix ix_str (pv 0) (pv 2) (fun _ _ => rfl)) (pe_gc (by rfl) T.c_BLANKS) (by rfl)) (pss_one (ps_expr (pe_bm PySem.F.plainAttrs_list PySem.F.slot_list_append PySem.F.type_list_append mt_append (pv 1) (pa_cons (pe_tup (pa_cons (pv 2) (pa_cons (pe_slice sl_str (pv 0) (po_some (pv 2)) (po_some (pv 3))) pa_nil))) pa_nil)))) pss_nil)
      (pss_one (ps_set (i := 2) sc_tokens_of.nd rfl (.inl rfl) (pv 3)))))))
      (pss_one (ps_ret (pv 1))))
theorem ok_Reader___init__ (T : Tx K mg) (F : FnM K "Reader" "__init__" "Reader.__init__" s_Reader___init__) (c_tokens_of : Cal P w K mg base CX0 k "tokens_of" ["text"] sp_tokens_of) : Mak P w K mg base CX0 (k + 2) "Reader" ["self", "text"] (sp_Reader_init K) := by
  refine mak_mk F T.mk_Reader T.g_Reader sc_Reader___init__ (fun vs H Q E h => len_Reader___init__ h) (fun _ _ _ _ _ _ us hl => match us, hl with | [_, _], _ => rfl) (fun cdv A outer s H vs Q E hr h => ⟨t_Reader___init__ K, ?_, pure_Reader___init__ T.cl_Reader T.no_Reader_tokens T.no_Reader_length T.no_Reader_passed vs H Q E h⟩)
  exact pss_cons (ps_fld (pv 0) (pf_callX c_tokens_of hr (Nat.le_succ _) (by rfl) pass0 (pa_cons (pv 1) pa_nil)) rfl)
      (pss_cons (ps_fld (pv 0) (pe_callB call_len_str (by rfl) T.n_len (by decide +kernel) (pa_cons (pv 1) pa_nil)) rfl)
      (pss_one (ps_fld (pv 0) pe_int rfl)))
theorem ok_Reader_peek (T : Tx K mg) (F : FnM K "Reader" "peek" "Reader.peek" s_Reader_peek) : Met P w K mg base CX0 (k + 2) (He.ga K "Reader") "peek" ["self"] (sp_peek K) := by
  refine met_mk F T.cl_Reader T.mt_Reader_peek sc_Reader_peek (fun vs H Q E h => len_Reader_peek h) (fun _ _ _ _ _ _ us hl => match us, hl with | [_], _ => rfl) (fun cdv A outer s H vs Q E hr h => ⟨t_Reader_peek K, ?_, pure_Reader_peek T.cl_Reader T.no_Reader_tokens T.no_Reader_passed vs H Q E h⟩)
  exact pss_one (ps_ret (pe_ifExp (pt_cmpR op_lt (pe_fld (pv 0) rfl) (pe_callB call_len_seq (by rfl) T.n_len (by decide +kernel) (pa_cons (pe_fld (pv 0) rfl) pa_nil)) (nomark _)) (pe_ix ix_tup (pe_ix ix_list (pe_fld (pv 0) rfl) (pe_fld (pv 0) rfl) (fun _ _ => rfl)) pe_int (fun _ _ => rfl)) pe_str))
theorem ok_Reader_position (T : Tx K mg) (F : FnM K "Reader" "position" "Reader.position" s_Reader_position) : Met P w K mg base CX0 (k + 2) (He.ga K "Reader") "position" ["self"] (sp_position K) := by
  refine met_mk F T.cl_Reader T.mt_Reader_position sc_Reader_position (fun vs H Q E h => len_Reader_position h) (fun _ _ _ _ _ _ us hl => match us, hl with | [_], _ => rfl) (fun cdv A outer s H vs Q E hr h => ⟨t_Reader_position K, ?_, pure_Reader_position T.cl_Reader T.no_Reader_tokens T.no_Reader_length T.no_Reader_passed vs H Q E h⟩)
  exact pss_one (ps_ret (pe_ifExp (pt_cmpR op_lt (pe_fld (pv 0) rfl) (pe_callB call_len_seq (by rfl) T.n_len (by decide +kernel) (pa_cons (pe_fld (pv 0) rfl) pa_nil)) (nomark _)) (pe_ix ix_tup (pe_ix ix_list (pe_fld (pv 0) rfl) (pe_fld (pv 0) rfl) (fun _ _ => rfl)) pe_int (fun _ _ => rfl)) (pe_fld (pv 0) rfl)))
theorem ok_Reader_skip (T : Tx K mg) (F : FnM K "Reader" "skip" "Reader.skip" s_Reader_skip) (c_Reader_peek : Met P w K mg base CX0 k (He.ga K "Reader") "peek" ["self"] (sp_peek K)) (c_Reader_position : Met P w K mg base CX0 k (He.ga K "Reader") "position" ["self"] (sp_position K)) (c_BadText : Err P w K mg base k "BadText" ["at"]) : Met P w K mg base (L2.CX P w) (k + 2) (He.ga K "Reader") "skip" ["self", "wanted"] (sp_skip K) := by
  refine met_mkX F T.cl_Reader T.mt_Reader_skip sc_Reader_skip (fun vs H Q E h => len_Reader_skip h) (fun _ _ _ _ _ _ us hl => match us, hl with | [_, _], _ => rfl) (fun cdv A outer s H vs Q E hr h => ⟨t_Reader_skip K E, ?_, pure_Reader_skip T.cl_Reader T.no_Reader_passed vs H Q E h⟩)
  exact pss_cons (ps_if (pt_cmpR op_ne (pf_meth0 c_Reader_peek hr (Nat.le_succ _) pass0 (pv 0)) (pv 1) (nomark _)) (pss_one (pf_raise c_BadText hr (Nat.le_refl _) (by rfl) rfl (takes_of rfl rfl rfl rfl) (pa_cons (pf_meth0 c_Reader_position hr (Nat.le_succ _) pass0 (pv 0)) pa_nil))) pss_nil)
      (pss_one (ps_fldaug (pv 0) pe_int in_add))
theorem ok_Reader_read_word (T : Tx K mg) (F : FnM K "Reader" "read_word" "Reader.read_word" s_Reader_read_word) (c_Reader_peek : Met P w K mg base CX0 k (He.ga K "Reader") "peek" ["self"] (sp_peek K)) (c_fits_word : Cal P w K mg base CX0 k "fits_word" ["token"] sp_fits_word) (c_Reader_position : Met P w K mg base CX0 k (He.ga K "Reader") "position" ["self"] (sp_position K)) (c_BadText : Err P w K mg base k "BadText" ["at"]) : Met P w K mg base (L2.CX P w) (k + 2) (He.ga K "Reader") "read_word" ["self"] (sp_read_one K fitsW) := by
  refine met_mkX F T.cl_Reader T.mt_Reader_read_word sc_Reader_read_word (fun vs H Q E h => len_Reader_read_word h) (fun _ _ _ _ _ _ us hl => match us, hl with | [_], _ => rfl) (fun cdv A outer s H vs Q E hr h => ⟨t_Reader_read_word K E, ?_, pure_Reader_read_word T.cl_Reader T.no_Reader_passed vs H Q E h⟩)
  exact pss_cons (ps_set (i := 1) sc_Reader_read_word.nd rfl (.inl rfl) (pf_meth0 c_Reader_peek hr (Nat.le_succ _) pass0 (pv 0)))
      (pss_cons (ps_if (pt_not (pt_val (pf_callX c_fits_word hr (Nat.le_succ _) (by rfl) pass0 (pa_cons (pv 1) pa_nil)))) (pss_one (pf_raise c_BadText hr (Nat.le_refl _) (by rfl) rfl (takes_of rfl rfl rfl rfl) (pa_cons (pf_meth0 c_Reader_position hr (Nat.le_succ _) pass0 (pv 0)) pa_nil))) pss_nil)
      (pss_cons (ps_fldaug (pv 0) pe_int in_add)
      (pss_one (ps_ret (pv 1)))))
theorem ok_Reader_read_class_name (T : Tx K mg) (F : FnM K "Reader" "read_class_name" "Reader.read_class_name" s_Reader_read_class_name) (c_Reader_peek : Met P w K mg base CX0 k (He.ga K "Reader") "peek" ["self"] (sp_peek K)) (c_fits_class : Cal P w K mg base CX0 k "fits_class" ["token"] sp_fits_class) (c_Reader_position : Met P w K mg base CX0 k (He.ga K "Reader") "position" ["self"] (sp_position K)) (c_BadText : Err P w K mg base k "BadText" ["at"]) : Met P w K mg base (L2.CX P w) (k + 2) (He.ga K "Reader") "read_class_name" ["self"] (sp_read_one K fitsC) := by
  refine met_mkX F T.cl_Reader T.mt_Reader_read_class_name sc_Reader_read_class_name (fun vs H Q E h => len_Reader_read_class_name h) (fun _ _ _ _ _ _ us hl => match us, hl with | [_], _ => rfl) (fun cdv A outer s H vs Q E hr h => ⟨t_Reader_read_class_name K E, ?_, pure_Reader_read_class_name T.cl_Reader T.no_Reader_passed vs H Q E h⟩)
  exact pss_cons (ps_set (i := 1) sc_Reader_read_class_name.nd rfl (.inl rfl) (pf_meth0 c_Reader_peek hr (Nat.le_succ _) pass0 (pv 0)))
      (pss_cons (ps_if (pt_not (pt_val (pf_callX c_fits_class hr (Nat.le_succ _) (by rfl) pass0 (pa_cons (pv 1) pa_nil)))) (pss_one (pf_raise c_BadText hr (Nat.le_refl _) (by rfl) rfl (takes_of rfl rfl rfl rfl) (pa_cons (pf_meth0 c_Reader_position hr (Nat.le_succ _) pass0 (pv 0)) pa_nil))) pss_nil)
      (pss_cons (ps_fldaug (pv 0) pe_int in_add)
      (pss_one (ps_ret (pv 1)))))
theorem ok_read_block {dp : Nat} (T : Tx K mg) (F : FnP K "read_block" s_read_block) (g : mg "read_block" = some (.ref (He.ga K "read_block"))) (c_Reader_position : Met P w K mg base CX0 k (He.ga K "Reader") "position" ["self"] (sp_position K)) (c_Reader_skip : Met P w K mg base (L2.CX P w) k (He.ga K "Reader") "skip" ["self", "wanted"] (sp_skip K)) (c_read_body : Cal P w K mg base (L2.CX P w) k "read_body" ["reader", "depth"] (sp_body K (dp + 1))) (c_BadText : Err P w K mg base k "BadText" ["at"]) : Cal P w K mg base (L2.CX P w) (k + 2) "read_block" ["reader", "depth"] (sp_block K dp) := by
  refine cal_mkX F g sc_read_block (fun vs H Q E h => len_read_block h) (fun _ _ _ _ _ _ us hl => match us, hl with | [_, _], _ => rfl) (fun cdv A outer s H vs Q E hr h => ⟨t_read_block K E dp, ?_, pure_read_block  vs H Q E h⟩)
  exact pss_cons (ps_if (pt_cmpR op_eq (pv 1) (pe_gc (by rfl) T.c_MOST_BLOCKS) (nomark _)) (pss_one (pf_raise c_BadText hr (Nat.le_refl _) (by rfl) rfl (takes_of rfl rfl rfl rfl) (pa_cons (pf_meth0 c_Reader_position hr (Nat.le_succ _) pass0 (pv 0)) pa_nil))) pss_nil)
      (pss_cons (ps_expr (pf_meth c_Reader_skip hr (Nat.le_succ _) passX (pv 0) (pa_cons pe_str pa_nil)))
      (pss_cons (ps_set (i := 2) sc_read_block.nd rfl (.inl rfl) (pf_callX c_read_body hr (Nat.le_succ _) (by rfl) passX (pa_cons (pv 0) (pa_cons (pe_op op_add (pv 1) pe_int) pa_nil))))
      (pss_cons (ps_expr (pf_meth c_Reader_skip hr (Nat.le_succ _) passX (pv 0) (pa_cons pe_str pa_nil)))
      (pss_one (ps_ret (pv 2))))))
theorem ok_read_either {dp : Nat} (T : Tx K mg) (F : FnP K "read_either" s_read_either) (g : mg "read_either" = some (.ref (He.ga K "read_either"))) (c_read_block : Cal P w K mg base (L2.CX P w) k "read_block" ["reader", "depth"] (sp_block K dp)) (c_Reader_skip : Met P w K mg base (L2.CX P w) k (He.ga K "Reader") "skip" ["self", "wanted"] (sp_skip K)) (c_Reader_peek : Met P w K mg base CX0 k (He.ga K "Reader") "peek" ["self"] (sp_peek K)) : Cal P w K mg base (L2.CX P w) (k + 2) "read_either" ["reader", "depth"] (sp_either K dp) := by
  refine cal_mkX F g sc_read_either (fun vs H Q E h => len_read_either h) (fun _ _ _ _ _ _ us hl => match us, hl with | [_, _], _ => rfl) (fun cdv A outer s H vs Q E hr h => ⟨t_read_either K E dp, ?_, pure_read_either  vs H Q E h⟩)
  exact pss_cons (ps_set (i := 2) sc_read_either.nd rfl (.inl rfl) (pe_lst (pa_cons (pf_callX c_read_block hr (Nat.le_succ _) (by rfl) passX (pa_cons (pv 0) (pa_cons (pv 1) pa_nil))) pa_nil)))
      (pss_cons (ps_expr (pf_meth c_Reader_skip hr (Nat.le_succ _) passX (pv 0) (pa_cons pe_str pa_nil)))
      (pss_cons (ps_expr (pe_bm PySem.F.plainAttrs_list PySem.F.slot_list_append PySem.F.type_list_append mt_append (pv 2) (pa_cons (pf_callX c_read_block hr (Nat.le_succ _) (by rfl) passX (pa_cons (pv 0) (pa_cons (pv 1) pa_nil))) pa_nil)))
      (pss_cons (ps_while (passes_of rfl) (pt_cmpR op_eq (pf_meth0 c_Reader_peek hr (Nat.le_succ _) pass0 (pv 0)) pe_str (nomark _))
      (pss_cons (ps_expr (pf_meth c_Reader_skip hr (Nat.le_succ _) passX (pv 0) (pa_cons pe_str pa_nil)))
      (pss_one (ps_expr (pe_bm PySem.F.plainAttrs_list PySem.F.slot_list_append PySem.F.type_list_append mt_append (pv 2) (pa_cons (pf_callX c_read_block hr (Nat.le_succ _) (by rfl) passX (pa_cons (pv 0) (pa_cons (pv 1) pa_nil))) pa_nil))))))
      (pss_one (ps_ret (pe_callTy call_tuple_of (by rfl) T.n_tuple (by decide +kernel) (pa_cons (pv 2) pa_nil)))))))
theorem ok_read_nested {dp : Nat} (T : Tx K mg) (F : FnP K "read_nested" s_read_nested) (g : mg "read_nested" = some (.ref (He.ga K "read_nested"))) (c_read_block : Cal P w K mg base (L2.CX P w) k "read_block" ["reader", "depth"] (sp_block K dp)) (c_read_either : Cal P w K mg base (L2.CX P w) k "read_either" ["reader", "depth"] (sp_either K dp)) (c_Reader_skip : Met P w K mg base (L2.CX P w) k (He.ga K "Reader") "skip" ["self", "wanted"] (sp_skip K)) (c_Reader_read_word : Met P w K mg base (L2.CX P w) k (He.ga K "Reader") "read_word" ["self"] (sp_read_one K fitsW)) : Cal P w K mg base (L2.CX P w) (k + 2) "read_nested" ["reader", "word", "depth"] (sp_nested K dp) := by
  refine cal_mkX F g sc_read_nested (fun vs H Q E h => len_read_nested h) (fun _ _ _ _ _ _ us hl => match us, hl with | [_, _, _], _ => rfl) (fun cdv A outer s H vs Q E hr h => ⟨t_read_nested K E dp, ?_, pure_read_nested  vs H Q E h⟩)
  exact pss_cons (ps_if (pt_cmpR op_eq (pv 1) pe_str (nomark _)) (pss_one (ps_ret (pe_tup (pa_cons (pv 1) (pa_cons (pf_callX c_read_block hr (Nat.le_succ _) (by rfl) passX (pa_cons (pv 0) (pa_cons (pv 2) pa_nil))) pa_nil))))) pss_nil)
      (pss_cons (ps_if (pt_cmpR op_eq (pv 1) pe_str (nomark _)) (pss_one (ps_ret (pe_tup (pa_cons (pv 1) (pa_cons (pf_callX c_read_either hr (Nat.le_succ _) (by rfl) passX (pa_cons (pv 0) (pa_cons (pv 2) pa_nil))) pa_nil))))) pss_nil)
      (pss_cons (ps_if (pt_cmpR op_eq (pv 1) pe_str (nomark _)) (pss_cons (ps_set (i := 3) sc_read_nested.nd rfl (.inl rfl) (pf_callX c_read_block hr (Nat.le_succ _) (by rfl) passX (pa_cons (pv 0) (pa_cons (pv 2) pa_nil))))
      (pss_cons (ps_expr (pf_meth c_Reader_skip hr (Nat.le_succ _) passX (pv 0) (pa_cons pe_str pa_nil)))
      (pss_one (ps_ret (pe_tup (pa_cons (pv 1) (pa_cons (pv 3) (pa_cons (pf_callX c_read_block hr (Nat.le_succ _) (by rfl) passX (pa_cons (pv 0) (pa_cons (pv 2) pa_nil))) pa_nil)))))))) pss_nil)
      (pss_cons (ps_set (i := 4) sc_read_nested.nd rfl (.inl rfl) (pf_meth0 c_Reader_read_word hr (Nat.le_succ _) passX (pv 0)))
      (pss_cons (ps_set (i := 3) sc_read_nested.nd rfl (.inl rfl) (pf_callX c_read_block hr (Nat.le_succ _) (by rfl) passX (pa_cons (pv 0) (pa_cons (pv 2) pa_nil))))
      (pss_cons (ps_expr (pf_meth c_Reader_skip hr (Nat.le_succ _) passX (pv 0) (pa_cons pe_str pa_nil)))
      (pss_one (ps_ret (pe_tup (pa_cons (pv 1) (pa_cons (pv 4) (pa_cons (pv 3) (pa_cons (pf_callX c_read_block hr (Nat.le_succ _) (by rfl) passX (pa_cons (pv 0) (pa_cons (pv 2) pa_nil))) pa_nil))))))))))))
theorem ok_read_step {dp : Nat} (T : Tx K mg) (F : FnP K "read_step" s_read_step) (g : mg "read_step" = some (.ref (He.ga K "read_step"))) (c_Reader_peek : Met P w K mg base CX0 k (He.ga K "Reader") "peek" ["self"] (sp_peek K)) (c_Reader_skip : Met P w K mg base (L2.CX P w) k (He.ga K "Reader") "skip" ["self", "wanted"] (sp_skip K)) (c_read_nested : Cal P w K mg base (L2.CX P w) k "read_nested" ["reader", "word", "depth"] (sp_nested K dp)) (c_Reader_read_word : Met P w K mg base (L2.CX P w) k (He.ga K "Reader") "read_word" ["self"] (sp_read_one K fitsW)) (c_Reader_read_class_name : Met P w K mg base (L2.CX P w) k (He.ga K "Reader") "read_class_name" ["self"] (sp_read_one K fitsC)) : Cal P w K mg base (L2.CX P w) (k + 2) "read_step" ["reader", "depth"] (sp_step K dp) := by
  refine cal_mkX F g sc_read_step (fun vs H Q E h => len_read_step h) (fun _ _ _ _ _ _ us hl => match us, hl with | [_, _], _ => rfl) (fun cdv A outer s H vs Q E hr h => ⟨t_read_step K E dp, ?_, pure_read_step T.q_NESTED_STEPS T.q_WORD_STEPS T.q_CLASS_STEPS vs H Q E h⟩)
  exact pss_cons (ps_set (i := 2) sc_read_step.nd rfl (.inl rfl) (pf_meth0 c_Reader_peek hr (Nat.le_succ _) pass0 (pv 0)))
      (pss_cons (ps_expr (pf_meth c_Reader_skip hr (Nat.le_succ _) passX (pv 0) (pa_cons (pv 2) pa_nil)))
      (pss_cons (ps_if (pt_cmpR op_in_seq (pv 2) (pe_gc (by rfl) T.c_NESTED_STEPS) (by rfl)) (pss_one (ps_ret (pf_callX c_read_nested hr (Nat.le_succ _) (by rfl) passX (pa_cons (pv 0) (pa_cons (pv 2) (pa_cons (pv 1) pa_nil)))))) pss_nil)
      (pss_cons (ps_set (i := 3) sc_read_step.nd rfl (.inl rfl) (pe_tup (pa_cons (pv 2) pa_nil)))
      (pss_cons (ps_if (pt_cmpR op_in_seq (pv 2) (pe_gc (by rfl) T.c_WORD_STEPS) (by rfl)) (pss_one (ps_set (i := 3) sc_read_step.nd rfl (.inl rfl) (pe_tup (pa_cons (pv 2) (pa_cons (pf_meth0 c_Reader_read_word hr (Nat.le_succ _) passX (pv 0)) pa_nil))))) (pss_one (ps_if (pt_cmpR op_in_seq (pv 2) (pe_gc (by rfl) T.c_CLASS_STEPS) (by rfl)) (pss_one (ps_set (i := 3) sc_read_step.nd rfl (.inl rfl) (pe_tup (pa_cons (pv 2) (pa_cons (pf_meth0 c_Reader_read_class_name hr (Nat.le_succ _) passX (pv 0)) pa_nil))))) pss_nil)))
      (pss_cons (ps_expr (pf_meth c_Reader_skip hr (Nat.le_succ _) passX (pv 0) (pa_cons pe_str pa_nil)))
      (pss_one (ps_ret (pv 3))))))))
theorem ok_read_body {dp : Nat} (T : Tx K mg) (F : FnP K "read_body" s_read_body) (g : mg "read_body" = some (.ref (He.ga K "read_body"))) (c_Reader_peek : Met P w K mg base CX0 k (He.ga K "Reader") "peek" ["self"] (sp_peek K)) (c_read_step : Cal P w K mg base (L2.CX P w) k "read_step" ["reader", "depth"] (sp_step K dp)) : Cal P w K mg base (L2.CX P w) (k + 2) "read_body" ["reader", "depth"] (sp_body K dp) := by
  refine cal_mkX F g sc_read_body (fun vs H Q E h => len_read_body h) (fun _ _ _ _ _ _ us hl => match us, hl with | [_, _], _ => rfl) (fun cdv A outer s H vs Q E hr h => ⟨t_read_body K E dp, ?_, pure_read_body T.q_STARTS vs H Q E h⟩)
  exact pss_cons (ps_set (i := 2) sc_read_body.nd rfl (.inl rfl) (pe_lst pa_nil))
      (pss_cons (ps_while (passes_of rfl) (pt_cmpR op_in_seq (pf_meth0 c_Reader_peek hr (Nat.le_succ _) pass0 (pv 0)) (pe_gc (by rfl) T.c_STARTS) (by rfl))
      (pss_one (ps_expr (pe_bm PySem.F.plainAttrs_list PySem.F.slot_list_append PySem.F.type_list_append mt_append (pv 2) (pa_cons (pf_callX c_read_step hr (Nat.le_succ _) (by rfl) passX (pa_cons (pv 0) (pa_cons (pv 1) pa_nil))) pa_nil)))))
      (pss_one (ps_ret (pe_callTy call_tuple_of (by rfl) T.n_tuple (by decide +kernel) (pa_cons (pv 2) pa_nil)))))
theorem ok_read_steps (T : Tx K mg) (F : FnP K "read_steps" s_read_steps) (g : mg "read_steps" = some (.ref (He.ga K "read_steps"))) (c_Reader___init__ : Mak P w K mg base CX0 k "Reader" ["self", "text"] (sp_Reader_init K)) (c_read_body : Cal P w K mg base (L2.CX P w) k "read_body" ["reader", "depth"] (sp_body K 0)) (c_Reader_peek : Met P w K mg base CX0 k (He.ga K "Reader") "peek" ["self"] (sp_peek K)) (c_Reader_position : Met P w K mg base CX0 k (He.ga K "Reader") "position" ["self"] (sp_position K)) (c_BadText : Err P w K mg base k "BadText" ["at"]) : Cal P w K mg base (L2.CX P w) (k + 2) "read_steps" ["text"] (sp_read_steps2 K) := by
  refine cal_mkX F g sc_read_steps (fun vs H Q E h => len_read_steps2 h) (fun _ _ _ _ _ _ us hl => match us, hl with | [_], _ => rfl) (fun cdv A outer s H vs Q E hr h => ⟨t_read_steps K E, ?_, pure_read_steps2  vs H Q E h⟩)
  exact pss_cons (ps_if (pt_not (pt_val (pe_callB call_isi (by rfl) T.n_isinstance (by decide +kernel) (pa_cons (pv 0) (pa_cons (pe_bltn (v := .ty "str") (u := .type "str") (by rfl) T.n_str (by decide +kernel) (by exact rfl)) pa_nil))))) (pss_one (pf_raise c_BadText hr (Nat.le_refl _) (by rfl) rfl (takes_of rfl rfl rfl rfl) (pa_cons (pe_un un_neg pe_int) pa_nil))) pss_nil)
      (pss_cons (ps_set (i := 1) sc_read_steps.nd rfl (.inl rfl) (pf_make c_Reader___init__ hr (Nat.le_refl _) (by rfl) pass0 (pa_cons (pv 0) pa_nil)))
      (pss_cons (ps_set (i := 2) sc_read_steps.nd rfl (.inl rfl) (pf_callX c_read_body hr (Nat.le_succ _) (by rfl) passX (pa_cons (pv 1) (pa_cons pe_int pa_nil))))
      (pss_cons (ps_if (pt_cmpR op_ne (pf_meth0 c_Reader_peek hr (Nat.le_succ _) pass0 (pv 1)) pe_str (nomark _)) (pss_one (pf_raise c_BadText hr (Nat.le_refl _) (by rfl) rfl (takes_of rfl rfl rfl rfl) (pa_cons (pf_meth0 c_Reader_position hr (Nat.le_succ _) pass0 (pv 1)) pa_nil))) pss_nil)
      (pss_one (ps_ret (pv 2))))))
theorem ok__law_bag (T : Tx K mg) (F : FnP K "_law_bag" s__law_bag) (g : mg "_law_bag" = some (.ref (He.ga K "_law_bag"))) : Cal P w K mg base CX0 (k + 2) "_law_bag" ["_law_script", "_law_at_here"] (sp_bag K) := by
  refine cal_mk F g sc__law_bag (fun vs H Q E h => len__law_bag h) (fun _ _ _ _ _ _ us hl => match us, hl with | [_, _], _ => rfl) (fun cdv A outer s H vs Q E hr h => ⟨t__law_bag K, ?_, pure__law_bag  vs H Q E h⟩)
  exact pss_cons (ps_set (i := 2) sc__law_bag.nd rfl (.inl rfl) (pe_ifExp (pt_cmpR op_lt (pv 1) (pe_callB call_len_seq (by rfl) T.n_len (by decide +kernel) (pa_cons (pv 0) pa_nil)) (nomark _)) (pe_ix ix_list (pv 0) (pv 1) (fun _ _ => rfl)) pe_int))
      (pss_cons (ps_set (i := 3) sc__law_bag.nd rfl (.inl rfl) (pe_op op_add (pe_op op_mul pe_int (pv 1)) pe_int))
      (pss_cons (ps_for PassesOwn.never rfl (pi_enum (by rfl) T.n_enumerate (pa_cons (pe_slice sl_list (pv 0) po_none (po_some pe_int)) pa_nil)) (pg_tup rfl (pgs_cons (pg_name (i := 4) sc__law_bag.nd rfl (.inl rfl)) (pgs_cons (pg_name (i := 5) sc__law_bag.nd rfl (.inl rfl)) pgs_nil)))
      (pss_one (ps_set (i := 3) sc__law_bag.nd rfl (.inl rfl) (pe_op op_mod (pe_callTy call_int1 (by rfl) T.n_int (by decide +kernel) (pa_cons (pe_op op_add (pe_op op_add (pe_op op_mul (pv 3) pe_int) (pe_op op_mod (pe_callTy call_int1 (by rfl) T.n_int (by decide +kernel) (pa_cons (pv 5) pa_nil)) pe_int)) (pe_op op_mul pe_int (pv 4))) pa_nil)) pe_int))))
      (pss_one (ps_ret (pe_lst (pa_cons (pe_ifExp (pt_cmpR op_ge (pe_callB call_abs (by rfl) T.n_abs (by decide +kernel) (pa_cons (pv 2) pa_nil)) (pe_op op_pow pe_int pe_int) (nomark _)) (pe_callB call_abs (by rfl) T.n_abs (by decide +kernel) (pa_cons (pv 2) pa_nil)) pe_int) (pa_cons (pv 3) pa_nil)))))))
theorem ok__law_draw (T : Tx K mg) (F : FnP K "_law_draw" s__law_draw) (g : mg "_law_draw" = some (.ref (He.ga K "_law_draw"))) : Cal P w K mg base CX0 (k + 2) "_law_draw" ["_law_bag_here", "_law_many"] sp_draw := by
  refine cal_mk F g sc__law_draw (fun vs H Q E h => len__law_draw h) (fun _ _ _ _ _ _ us hl => match us, hl with | [_, _], _ => rfl) (fun cdv A outer s H vs Q E hr h => ⟨t__law_draw K, ?_, pure__law_draw  vs H Q E h⟩)
  exact pss_cons (ps_if (pt_cmpR op_gt (pe_ix ix_list (pv 0) pe_int (fun _ _ => rfl)) pe_int (nomark _)) (pss_cons (ps_set (i := 2) sc__law_draw.nd rfl (.inl rfl) (pe_op op_mod (pe_callTy call_int1 (by rfl) T.n_int (by decide +kernel) (pa_cons (pe_ix ix_list (pv 0) pe_int (fun _ _ => rfl)) pa_nil)) (pv 1)))
      (pss_cons (ps_asg (pe_op op_fdivW (pe_ix ix_list (pv 0) pe_int (fun _ _ => rfl)) (pv 1)) (pg_sub (pv 0) pe_int set_list))
      (pss_one (ps_ret (pv 2))))) pss_nil)
      (pss_cons (ps_asg (pe_op op_mod (pe_callTy call_int1 (by rfl) T.n_int (by decide +kernel) (pa_cons (pe_op op_add (pe_op op_mul (pe_ix ix_list (pv 0) pe_int (fun _ _ => rfl)) pe_int) pe_int) pa_nil)) pe_int) (pg_sub (pv 0) pe_int set_list))
      (pss_one (ps_ret (pe_op op_mod (pe_op op_fdiv (pe_op op_mod (pe_callTy call_int1 (by rfl) T.n_int (by decide +kernel) (pa_cons (pe_op op_mul (pe_op op_fdiv (pe_ix ix_list (pv 0) pe_int (fun _ _ => rfl)) pe_int) pe_int) pa_nil)) pe_int) pe_int) (pv 1)))))
theorem ok__law_one (T : Tx K mg) (F : FnP K "_law_one" s__law_one) (g : mg "_law_one" = some (.ref (He.ga K "_law_one"))) (c__law_draw : Cal P w K mg base CX0 k "_law_draw" ["_law_bag_here", "_law_many"] sp_draw) : Cal P w K mg base CX0 (k + 2) "_law_one" ["_law_bag_here", "_law_some"] (sp_one K) := by
  refine cal_mk F g sc__law_one (fun vs H Q E h => len__law_one h) (fun _ _ _ _ _ _ us hl => match us, hl with | [_, _], _ => rfl) (fun cdv A outer s H vs Q E hr h => ⟨t__law_one K, ?_, pure__law_one  vs H Q E h⟩)
  exact pss_one (ps_ret (pe_ix ix_list (pv 1) (pf_callX c__law_draw hr (Nat.le_succ _) (by rfl) pass0 (pa_cons (pv 0) (pa_cons (pe_callB call_len_seq (by rfl) T.n_len (by decide +kernel) (pa_cons (pv 1) pa_nil)) pa_nil))) (fun _ _ => rfl)))
theorem ok__law_words (T : Tx K mg) (F : FnP K "_law_words" s__law_words) (g : mg "_law_words" = some (.ref (He.ga K "_law_words"))) (c__law_draw : Cal P w K mg base CX0 k "_law_draw" ["_law_bag_here", "_law_many"] sp_draw) (c__law_one : Cal P w K mg base CX0 k "_law_one" ["_law_bag_here", "_law_some"] (sp_one K)) : Cal P w K mg base CX0 (k + 2) "_law_words" ["_law_bag_here", "_law_many"] sp_words := by
  refine cal_mk F g sc__law_words (fun vs H Q E h => len__law_words h) (fun _ _ _ _ _ _ us hl => match us, hl with | [_, _], _ => rfl) (fun cdv A outer s H vs Q E hr h => ⟨t__law_words K, ?_, pure__law_words  vs H Q E h⟩)
  exact pss_cons (ps_par3 (i := 2) (j := 3) (l := 4) (by rfl) sc__law_words.nd rfl rfl rfl (by decide) (by decide) (by decide) rfl rfl rfl (pa_cons (pe_callTy (call_list_txt rfl) (by rfl) T.n_list (by decide +kernel) (pa_cons pe_str pa_nil)) (pa_cons pe_str (pa_cons (pe_lst pa_nil) pa_nil))) (by rfl))
      (pss_cons (ps_for PassesOwn.never rfl (pi_range1 (by rfl) T.n_range (pa_cons (pf_callX c__law_draw hr (Nat.le_succ _) (by rfl) pass0 (pa_cons (pv 0) (pa_cons pe_int pa_nil))) pa_nil)) (pg_name (i := 5) sc__law_words.nd rfl (.inl rfl))
      (pss_one (ps_set (i := 3) sc__law_words.nd rfl (.inl rfl) (pe_op op_add_str (pv 3) (pf_callX c__law_one hr (Nat.le_succ _) (by rfl) pass0 (pa_cons (pv 0) (pa_cons (pe_lst (pa_cons pe_str (pa_cons pe_str (pa_cons pe_str (pa_cons pe_str pa_nil))))) pa_nil)))))))
      (pss_cons (ps_set (i := 6) sc__law_words.nd rfl (.inl rfl) (pe_cmpR op_eq (pf_callX c__law_draw hr (Nat.le_succ _) (by rfl) pass0 (pa_cons (pv 0) (pa_cons pe_int pa_nil))) pe_int (nomark _)))
      (pss_cons (ps_for PassesOwn.never rfl (pi_range1 (by rfl) T.n_range (pa_cons (pv 1) pa_nil)) (pg_name (i := 5) sc__law_words.nd rfl (.inl rfl))
      (pss_cons (ps_set (i := 7) sc__law_words.nd rfl (.inl rfl) (pe_bm PySem.F.plainAttrs_list PySem.F.slot_list_pop PySem.F.type_list_pop mt_popAt (pv 2) (pa_cons (pf_callX c__law_draw hr (Nat.le_succ _) (by rfl) pass0 (pa_cons (pv 0) (pa_cons (pe_callB call_len_seq (by rfl) T.n_len (by decide +kernel) (pa_cons (pv 2) pa_nil)) pa_nil))) pa_nil)))
      (pss_one (ps_expr (pe_bm PySem.F.plainAttrs_list PySem.F.slot_list_append PySem.F.type_list_append mt_append (pv 4) (pa_cons (pe_ifExp (pt_val (pv 6)) (pe_op op_add_str (pv 7) (pv 3)) (pe_op op_add_str (pv 3) (pv 7))) pa_nil))))))
      (pss_one (ps_ret (pv 4))))))
theorem ok__law_labels (T : Tx K mg) (F : FnP K "_law_labels" s__law_labels) (g : mg "_law_labels" = some (.ref (He.ga K "_law_labels"))) (c__law_draw : Cal P w K mg base CX0 k "_law_draw" ["_law_bag_here", "_law_many"] sp_draw) (c__law_one : Cal P w K mg base CX0 k "_law_one" ["_law_bag_here", "_law_some"] (sp_one K)) : Cal P w K mg base CX0 (k + 2) "_law_labels" ["_law_bag_here", "_law_many"] sp_labels := by
  refine cal_mk F g sc__law_labels (fun vs H Q E h => len__law_labels h) (fun _ _ _ _ _ _ us hl => match us, hl with | [_, _], _ => rfl) (fun cdv A outer s H vs Q E hr h => ⟨t__law_labels K, ?_, pure__law_labels  vs H Q E h⟩)
  exact pss_cons (ps_par3 (i := 2) (j := 3) (l := 4) (by rfl) sc__law_labels.nd rfl rfl rfl (by decide) (by decide) (by decide) rfl rfl rfl (pa_cons (pe_callTy (call_list_txt rfl) (by rfl) T.n_list (by decide +kernel) (pa_cons pe_str pa_nil)) (pa_cons pe_str (pa_cons (pe_lst pa_nil) pa_nil))) (by rfl))
      (pss_cons (ps_for PassesOwn.never rfl (pi_range1 (by rfl) T.n_range (pa_cons (pf_callX c__law_draw hr (Nat.le_succ _) (by rfl) pass0 (pa_cons (pv 0) (pa_cons pe_int pa_nil))) pa_nil)) (pg_name (i := 5) sc__law_labels.nd rfl (.inl rfl))
      (pss_one (ps_set (i := 3) sc__law_labels.nd rfl (.inl rfl) (pe_op op_add_str (pv 3) (pf_callX c__law_one hr (Nat.le_succ _) (by rfl) pass0 (pa_cons (pv 0) (pa_cons (pe_lst (pa_cons pe_str (pa_cons pe_str (pa_cons pe_str (pa_cons pe_str (pa_cons pe_str pa_nil)))))) pa_nil)))))))
      (pss_cons (ps_for PassesOwn.never rfl (pi_range1 (by rfl) T.n_range (pa_cons (pv 1) pa_nil)) (pg_name (i := 5) sc__law_labels.nd rfl (.inl rfl))
      (pss_one (ps_expr (pe_bm PySem.F.plainAttrs_list PySem.F.slot_list_append PySem.F.type_list_append mt_append (pv 4) (pa_cons (pe_op op_add_str (pe_bm PySem.F.plainAttrs_list PySem.F.slot_list_pop PySem.F.type_list_pop mt_popAt (pv 2) (pa_cons (pf_callX c__law_draw hr (Nat.le_succ _) (by rfl) pass0 (pa_cons (pv 0) (pa_cons (pe_callB call_len_seq (by rfl) T.n_len (by decide +kernel) (pa_cons (pv 2) pa_nil)) pa_nil))) pa_nil)) (pv 3)) pa_nil)))))
      (pss_one (ps_ret (pv 4)))))
theorem ok__law_step {dp : Nat} (T : Tx K mg) (F : FnP K "_law_step" s__law_step) (g : mg "_law_step" = some (.ref (He.ga K "_law_step"))) (c__law_draw : Cal P w K mg base CX0 k "_law_draw" ["_law_bag_here", "_law_many"] sp_draw) (c__law_one : Cal P w K mg base CX0 k "_law_one" ["_law_bag_here", "_law_some"] (sp_one K)) (c__law_body : Cal P w K mg base CX0 k "_law_body" ["_law_bag_here", "_law_words_here", "_law_room", "_law_depth"] (sp_lbody K dp)) : Cal P w K mg base CX0 (k + 2) "_law_step" ["_law_bag_here", "_law_words_here", "_law_room", "_law_depth"] (sp_lstep K dp) := by
  refine cal_mk F g sc__law_step (fun vs H Q E h => len__law_step h) (fun _ _ _ _ _ _ us hl => match us, hl with | [_, _, _, _], _ => rfl) (fun cdv A outer s H vs Q E hr h => ⟨t__law_step K dp, ?_, pure__law_step  vs H Q E h⟩)
  exact pss_cons (ps_set (i := 4) sc__law_step.nd rfl (.inl rfl) (pf_callX c__law_draw hr (Nat.le_succ _) (by rfl) pass0 (pa_cons (pv 0) (pa_cons (pe_ifExp (pt_cmpR op_gt (pv 3) pe_int (nomark _)) pe_int pe_int) pa_nil))))
      (pss_cons (ps_if (pt_cmpR op_lt (pv 4) pe_int (nomark _)) (pss_one (ps_ret (pe_tup (pa_cons (pe_ix ix_list (pe_lst (pa_cons pe_str (pa_cons pe_str (pa_cons pe_str (pa_cons pe_str (pa_cons pe_str (pa_cons pe_str pa_nil))))))) (pv 4) (fun _ _ => rfl)) (pa_cons (pf_callX c__law_one hr (Nat.le_succ _) (by rfl) pass0 (pa_cons (pv 0) (pa_cons (pe_ix ix_tup (pv 1) pe_int (fun _ _ => rfl)) pa_nil))) pa_nil))))) pss_nil)
      (pss_cons (ps_if (pt_cmpR op_lt (pv 4) pe_int (nomark _)) (pss_one (ps_ret (pe_tup (pa_cons pe_str (pa_cons (pf_callX c__law_one hr (Nat.le_succ _) (by rfl) pass0 (pa_cons (pv 0) (pa_cons (pe_ix ix_tup (pv 1) pe_int (fun _ _ => rfl)) pa_nil))) pa_nil))))) pss_nil)
      (pss_cons (ps_if ((pw_or (pt_cmpR op_lt (pv 4) pe_int (nomark _)) (pw_or1 ((pw_and (pt_cmpR op_lt (pv 4) pe_int (nomark _)) (pw_and1 (pt_cmpR (op_eqD hr.units) (pe_ix ix_tup (pv 1) (pe_op op_sub (pv 4) pe_int) (fun _ _ => rfl)) (pe_lst pa_nil) (nomark _)))).pt))).pt) (pss_one (ps_ret (pe_ifExp (pt_cmpR op_eq (pv 4) pe_int (nomark _)) (pe_tup (pa_cons pe_str pa_nil)) (pe_tup (pa_cons pe_str pa_nil))))) pss_nil)
      (pss_cons (ps_if (pt_cmpR op_lt (pv 4) pe_int (nomark _)) (pss_one (ps_ret (pe_tup (pa_cons (pe_ifExp (pt_cmpR op_eq (pv 4) pe_int (nomark _)) pe_str pe_str) (pa_cons (pf_callX c__law_one hr (Nat.le_succ _) (by rfl) pass0 (pa_cons (pv 0) (pa_cons (pe_ix ix_tup (pv 1) (pe_op op_sub (pv 4) pe_int) (fun _ _ => rfl)) pa_nil))) pa_nil))))) pss_nil)
      (pss_cons (ps_set (i := 5) sc__law_step.nd rfl (.inl rfl) (pe_lst pa_nil))
      (pss_cons (ps_for PassesOwn.never rfl (pi_range1 (by rfl) T.n_range (pa_cons (pe_op op_add pe_int (pf_callX c__law_draw hr (Nat.le_succ _) (by rfl) pass0 (pa_cons (pv 0) (pa_cons pe_int pa_nil)))) pa_nil)) (pg_name (i := 6) sc__law_step.nd rfl (.inl rfl))
      (pss_one (ps_expr (pe_bm PySem.F.plainAttrs_list PySem.F.slot_list_append PySem.F.type_list_append mt_append (pv 5) (pa_cons (pf_callX c__law_body hr (Nat.le_succ _) (by rfl) pass0 (pa_cons (pv 0) (pa_cons (pv 1) (pa_cons (pv 2) (pa_cons (pe_op op_sub (pv 3) pe_int) pa_nil))))) pa_nil)))))
      (pss_cons (ps_if (pt_cmpR op_eq (pv 4) pe_int (nomark _)) (pss_one (ps_ret (pe_tup (pa_cons pe_str (pa_cons (pf_callX c__law_one hr (Nat.le_succ _) (by rfl) pass0 (pa_cons (pv 0) (pa_cons (pe_ix ix_tup (pv 1) pe_int (fun _ _ => rfl)) pa_nil))) (pa_cons (pe_ix ix_list (pv 5) pe_int (fun _ _ => rfl)) (pa_cons (pe_ix ix_list (pv 5) pe_int (fun _ _ => rfl)) pa_nil))))))) pss_nil)
      (pss_cons (ps_if (pt_cmpR op_eq (pv 4) pe_int (nomark _)) (pss_one (ps_ret (pe_tup (pa_cons pe_str (pa_cons (pe_ix ix_list (pv 5) pe_int (fun _ _ => rfl)) (pa_cons (pe_ix ix_list (pv 5) pe_int (fun _ _ => rfl)) pa_nil)))))) pss_nil)
      (pss_one (ps_ret (pe_ifExp (pt_cmpR op_eq (pv 4) pe_int (nomark _)) (pe_tup (pa_cons pe_str (pa_cons (pe_ix ix_list (pv 5) pe_int (fun _ _ => rfl)) pa_nil))) (pe_tup (pa_cons pe_str (pa_cons (pe_callTy call_tuple_of (by rfl) T.n_tuple (by decide +kernel) (pa_cons (pv 5) pa_nil)) pa_nil))))))))))))))
theorem ok__law_body {dp : Nat} (T : Tx K mg) (F : FnP K "_law_body" s__law_body) (g : mg "_law_body" = some (.ref (He.ga K "_law_body"))) (c__law_draw : Cal P w K mg base CX0 k "_law_draw" ["_law_bag_here", "_law_many"] sp_draw) (c__law_step : Cal P w K mg base CX0 k "_law_step" ["_law_bag_here", "_law_words_here", "_law_room", "_law_depth"] (sp_lstep K dp)) : Cal P w K mg base CX0 (k + 2) "_law_body" ["_law_bag_here", "_law_words_here", "_law_room", "_law_depth"] (sp_lbody K (dp + 1)) := by
  refine cal_mk F g sc__law_body (fun vs H Q E h => len__law_body h) (fun _ _ _ _ _ _ us hl => match us, hl with | [_, _, _, _], _ => rfl) (fun cdv A outer s H vs Q E hr h => ⟨t__law_body K dp, ?_, pure__law_body  vs H Q E h⟩)
  exact pss_cons (ps_set (i := 4) sc__law_body.nd rfl (.inl rfl) (pe_lst pa_nil))
      (pss_cons (ps_for PassesOwn.never rfl (pi_range1 (by rfl) T.n_range (pa_cons (pf_callX c__law_draw hr (Nat.le_succ _) (by rfl) pass0 (pa_cons (pv 0) (pa_cons pe_int pa_nil))) pa_nil)) (pg_name (i := 5) sc__law_body.nd rfl (.inl rfl))
      (pss_one (ps_if (pt_cmpR op_gt (pe_ix ix_list (pv 2) pe_int (fun _ _ => rfl)) pe_int (nomark _)) (pss_cons (ps_asg (pe_op op_sub (pe_ix ix_list (pv 2) pe_int (fun _ _ => rfl)) pe_int) (pg_sub (pv 2) pe_int set_list))
      (pss_one (ps_expr (pe_bm PySem.F.plainAttrs_list PySem.F.slot_list_append PySem.F.type_list_append mt_append (pv 4) (pa_cons (pf_callX c__law_step hr (Nat.le_succ _) (by rfl) pass0 (pa_cons (pv 0) (pa_cons (pv 1) (pa_cons (pv 2) (pa_cons (pv 3) pa_nil))))) pa_nil))))) pss_nil)))
      (pss_one (ps_ret (pe_callTy call_tuple_of (by rfl) T.n_tuple (by decide +kernel) (pa_cons (pv 4) pa_nil)))))
theorem ok__law_start (T : Tx K mg) (F : FnP K "_law_start" s__law_start) (g : mg "_law_start" = some (.ref (He.ga K "_law_start"))) (c__law_draw : Cal P w K mg base CX0 k "_law_draw" ["_law_bag_here", "_law_many"] sp_draw) (c__law_words : Cal P w K mg base CX0 k "_law_words" ["_law_bag_here", "_law_many"] sp_words) (c__law_labels : Cal P w K mg base CX0 k "_law_labels" ["_law_bag_here", "_law_many"] sp_labels) : Cal P w K mg base CX0 (k + 2) "_law_start" ["_law_bag_here"] (sp_start K) := by
  refine cal_mk F g sc__law_start (fun vs H Q E h => len__law_start h) (fun _ _ _ _ _ _ us hl => match us, hl with | [_], _ => rfl) (fun cdv A outer s H vs Q E hr h => ⟨t__law_start K, ?_, pure__law_start  vs H Q E h⟩)
  exact pss_cons (ps_par (i := 1) (j := 2) (by rfl) sc__law_start.nd rfl rfl (by decide) rfl rfl (pa_cons (pf_callX c__law_words hr (Nat.le_succ _) (by rfl) pass0 (pa_cons (pv 0) (pa_cons (pe_op op_add pe_int (pf_callX c__law_draw hr (Nat.le_succ _) (by rfl) pass0 (pa_cons (pv 0) (pa_cons pe_int pa_nil)))) pa_nil))) (pa_cons (pf_callX c__law_words hr (Nat.le_succ _) (by rfl) pass0 (pa_cons (pv 0) (pa_cons (pe_op op_add pe_int (pf_callX c__law_draw hr (Nat.le_succ _) (by rfl) pass0 (pa_cons (pv 0) (pa_cons pe_int pa_nil)))) pa_nil))) pa_nil)) (by rfl))
      (pss_cons (ps_set (i := 3) sc__law_start.nd rfl (.inl rfl) (pf_callX c__law_labels hr (Nat.le_succ _) (by rfl) pass0 (pa_cons (pv 0) (pa_cons (pe_op op_add pe_int (pf_callX c__law_draw hr (Nat.le_succ _) (by rfl) pass0 (pa_cons (pv 0) (pa_cons pe_int pa_nil)))) pa_nil))))
      (pss_one (ps_ret (pe_tup (pa_cons (pv 1) (pa_cons (pv 2) (pa_cons (pv 3) (pa_cons (pv 3) pa_nil))))))))
theorem ok__law_tower (T : Tx K mg) (F : FnP K "_law_tower" s__law_tower) (g : mg "_law_tower" = some (.ref (He.ga K "_law_tower"))) (c__law_draw : Cal P w K mg base CX0 k "_law_draw" ["_law_bag_here", "_law_many"] sp_draw) (c__law_one : Cal P w K mg base CX0 k "_law_one" ["_law_bag_here", "_law_some"] (sp_one K)) : Cal P w K mg base CX0 (k + 2) "_law_tower" ["_law_bag_here", "_law_names", "_law_body_here", "_law_many"] (sp_tower K) := by
  refine cal_mk F g sc__law_tower (fun vs H Q E h => len__law_tower h) (fun _ _ _ _ _ _ us hl => match us, hl with | [_, _, _, _], _ => rfl) (fun cdv A outer s H vs Q E hr h => ⟨t__law_tower K, ?_, pure__law_tower  vs H Q E h⟩)
  exact pss_cons (ps_for PassesOwn.never rfl (pi_range1 (by rfl) T.n_range (pa_cons (pv 3) pa_nil)) (pg_name (i := 4) sc__law_tower.nd rfl (.inl rfl))
      (pss_cons (ps_par (i := 5) (j := 6) (by rfl) sc__law_tower.nd rfl rfl (by decide) rfl rfl (pa_cons (pf_callX c__law_draw hr (Nat.le_succ _) (by rfl) pass0 (pa_cons (pv 0) (pa_cons pe_int pa_nil))) (pa_cons (pe_lst (pa_cons (pv 2) (pa_cons (pe_tup pa_nil) pa_nil))) pa_nil)) (by rfl))
      (pss_cons (ps_if (pt_cmpR op_eq (pf_callX c__law_draw hr (Nat.le_succ _) (by rfl) pass0 (pa_cons (pv 0) (pa_cons pe_int pa_nil))) pe_int (nomark _)) (pss_one (ps_set (i := 6) sc__law_tower.nd rfl (.inl rfl) (pe_lst (pa_cons (pe_tup pa_nil) (pa_cons (pv 2) pa_nil))))) pss_nil)
      (pss_cons (ps_if (pt_cmpR op_eq (pv 5) pe_int (nomark _)) (pss_one (ps_set (i := 7) sc__law_tower.nd rfl (.inl rfl) (pe_tup (pa_cons pe_str (pa_cons (pv 2) pa_nil))))) (pss_one (ps_if (pt_cmpR op_eq (pv 5) pe_int (nomark _)) (pss_one (ps_set (i := 7) sc__law_tower.nd rfl (.inl rfl) (pe_tup (pa_cons pe_str (pa_cons (pe_ix ix_list (pv 6) pe_int (fun _ _ => rfl)) (pa_cons (pe_ix ix_list (pv 6) pe_int (fun _ _ => rfl)) pa_nil)))))) (pss_one (ps_if (pt_cmpR op_eq (pv 5) pe_int (nomark _)) (pss_one (ps_set (i := 7) sc__law_tower.nd rfl (.inl rfl) (pe_tup (pa_cons pe_str (pa_cons (pf_callX c__law_one hr (Nat.le_succ _) (by rfl) pass0 (pa_cons (pv 0) (pa_cons (pv 1) pa_nil))) (pa_cons (pe_ix ix_list (pv 6) pe_int (fun _ _ => rfl)) (pa_cons (pe_ix ix_list (pv 6) pe_int (fun _ _ => rfl)) pa_nil))))))) (pss_cons (ps_set (i := 8) sc__law_tower.nd rfl (.inl rfl) (pe_op op_rep (pe_lst (pa_cons (pe_tup (pa_cons (pe_tup (pa_cons pe_str pa_nil)) pa_nil)) pa_nil)) (pe_op op_add pe_int (pf_callX c__law_draw hr (Nat.le_succ _) (by rfl) pass0 (pa_cons (pv 0) (pa_cons pe_int pa_nil))))))
      (pss_cons (ps_expr (pe_bm PySem.F.plainAttrs_list PySem.F.slot_list_insert PySem.F.type_list_insert mt_insert (pv 8) (pa_cons (pf_callX c__law_draw hr (Nat.le_succ _) (by rfl) pass0 (pa_cons (pv 0) (pa_cons (pe_op op_add (pe_callB call_len_seq (by rfl) T.n_len (by decide +kernel) (pa_cons (pv 8) pa_nil)) pe_int) pa_nil))) (pa_cons (pv 2) pa_nil))))
      (pss_one (ps_set (i := 7) sc__law_tower.nd rfl (.inl rfl) (pe_tup (pa_cons pe_str (pa_cons (pe_callTy call_tuple_of (by rfl) T.n_tuple (by decide +kernel) (pa_cons (pv 8) pa_nil)) pa_nil))))))))))))
      (pss_one (ps_set (i := 2) sc__law_tower.nd rfl (.inl rfl) (pe_op op_catA (pe_tup (pa_cons (pv 7) pa_nil)) (pe_op op_repTup (pe_tup (pa_cons (pe_tup (pa_cons pe_str pa_nil)) pa_nil)) (pf_callX c__law_draw hr (Nat.le_succ _) (by rfl) pass0 (pa_cons (pv 0) (pa_cons pe_int pa_nil)))))))))))
      (pss_one (ps_ret (pv 2)))
theorem ok__law_signs {dp : Nat} (T : Tx K mg) (F : FnP K "_law_signs" s__law_signs) (g : mg "_law_signs" = some (.ref (He.ga K "_law_signs"))) (c__law_curly : Cal P w K mg base CX0 k "_law_curly" ["_law_body_here"] (sp_curly K dp)) : Cal P w K mg base CX0 (k + 2) "_law_signs" ["_law_body_here"] (sp_signs K (dp + 1)) := by
  refine cal_mk F g sc__law_signs (fun vs H Q E h => len__law_signs h) (fun _ _ _ _ _ _ us hl => match us, hl with | [_], _ => rfl) (fun cdv A outer s H vs Q E hr h => ⟨t__law_signs K dp, ?_, pure__law_signs  vs H Q E h⟩)
  exact pss_cons (ps_set (i := 1) sc__law_signs.nd rfl (.inl rfl) (pe_lst pa_nil))
      (pss_cons (ps_for PassesOwn.never rfl (pi_tup (pv 0)) (pg_name (i := 2) sc__law_signs.nd rfl (.inl rfl))
      (pss_one (ps_if (pt_cmpR op_eq (pe_ix ix_tup (pv 2) pe_int (fun _ _ => rfl)) pe_str (nomark _)) (pss_one (ps_expr (pe_bm PySem.F.plainAttrs_list PySem.F.slot_list_extend PySem.F.type_list_extend mt_extend (pv 1) (pa_cons (pe_op op_cat (pe_lst (pa_cons pe_str pa_nil)) (pf_callX c__law_curly hr (Nat.le_succ _) (by rfl) pass0 (pa_cons (pe_ix ix_tup (pv 2) pe_int (fun _ _ => rfl)) pa_nil))) pa_nil)))) (pss_one (ps_if (pt_cmpR op_eq (pe_ix ix_tup (pv 2) pe_int (fun _ _ => rfl)) pe_str (nomark _)) (pss_one (ps_expr (pe_bm PySem.F.plainAttrs_list PySem.F.slot_list_extend PySem.F.type_list_extend mt_extend (pv 1) (pa_cons (pe_op op_cat (pe_op op_cat (pe_op op_cat (pe_lst (pa_cons pe_str (pa_cons (pe_ix ix_tup (pv 2) pe_int (fun _ _ => rfl)) pa_nil))) (pf_callX c__law_curly hr (Nat.le_succ _) (by rfl) pass0 (pa_cons (pe_ix ix_tup (pv 2) pe_int (fun _ _ => rfl)) pa_nil))) (pe_lst (pa_cons pe_str pa_nil))) (pf_callX c__law_curly hr (Nat.le_succ _) (by rfl) pass0 (pa_cons (pe_ix ix_tup (pv 2) pe_int (fun _ _ => rfl)) pa_nil))) pa_nil)))) (pss_one (ps_if (pt_cmpR op_eq (pe_ix ix_tup (pv 2) pe_int (fun _ _ => rfl)) pe_str (nomark _)) (pss_one (ps_expr (pe_bm PySem.F.plainAttrs_list PySem.F.slot_list_extend PySem.F.type_list_extend mt_extend (pv 1) (pa_cons (pe_op op_cat (pe_op op_cat (pe_op op_cat (pe_lst (pa_cons pe_str pa_nil)) (pf_callX c__law_curly hr (Nat.le_succ _) (by rfl) pass0 (pa_cons (pe_ix ix_tup (pv 2) pe_int (fun _ _ => rfl)) pa_nil))) (pe_lst (pa_cons pe_str pa_nil))) (pf_callX c__law_curly hr (Nat.le_succ _) (by rfl) pass0 (pa_cons (pe_ix ix_tup (pv 2) pe_int (fun _ _ => rfl)) pa_nil))) pa_nil)))) (pss_one (ps_if (pt_cmpR op_eq (pe_ix ix_tup (pv 2) pe_int (fun _ _ => rfl)) pe_str (nomark _)) (pss_one (ps_for PassesOwn.never rfl (pi_enumT (by rfl) T.n_enumerate (pa_cons (pe_ix ix_tup (pv 2) pe_int (fun _ _ => rfl)) pa_nil)) (pg_tup rfl (pgs_cons (pg_name (i := 3) sc__law_signs.nd rfl (.inl rfl)) (pgs_cons (pg_name (i := 4) sc__law_signs.nd rfl (.inl rfl)) pgs_nil)))
      (pss_one (ps_expr (pe_bm PySem.F.plainAttrs_list PySem.F.slot_list_extend PySem.F.type_list_extend mt_extend (pv 1) (pa_cons (pe_op op_cat (pe_lst (pa_cons (pe_ifExp (pt_cmpR op_eq (pv 3) pe_int (nomark _)) pe_str pe_str) pa_nil)) (pf_callX c__law_curly hr (Nat.le_succ _) (by rfl) pass0 (pa_cons (pv 4) pa_nil))) pa_nil)))))) (pss_one (ps_expr (pe_bm PySem.F.plainAttrs_list PySem.F.slot_list_extend PySem.F.type_list_extend mt_extend (pv 1) (pa_cons (pe_op op_cat (pe_callTy call_list_of (by rfl) T.n_list (by decide +kernel) (pa_cons (pv 2) pa_nil)) (pe_lst (pa_cons pe_str pa_nil))) pa_nil)))))))))))))
      (pss_one (ps_ret (pv 1))))
theorem ok__law_curly {dp : Nat} (T : Tx K mg) (F : FnP K "_law_curly" s__law_curly) (g : mg "_law_curly" = some (.ref (He.ga K "_law_curly"))) (c__law_signs : Cal P w K mg base CX0 k "_law_signs" ["_law_body_here"] (sp_signs K dp)) : Cal P w K mg base CX0 (k + 2) "_law_curly" ["_law_body_here"] (sp_curly K dp) := by
  refine cal_mk F g sc__law_curly (fun vs H Q E h => len__law_curly h) (fun _ _ _ _ _ _ us hl => match us, hl with | [_], _ => rfl) (fun cdv A outer s H vs Q E hr h => ⟨t__law_curly K dp, ?_, pure__law_curly  vs H Q E h⟩)
  exact pss_one (ps_ret (pe_op op_cat (pe_op op_cat (pe_lst (pa_cons pe_str pa_nil)) (pf_callX c__law_signs hr (Nat.le_succ _) (by rfl) pass0 (pa_cons (pv 0) pa_nil))) (pe_lst (pa_cons pe_str pa_nil))))
theorem ok__law_spread (T : Tx K mg) (F : FnP K "_law_spread" s__law_spread) (g : mg "_law_spread" = some (.ref (He.ga K "_law_spread"))) (c__law_one : Cal P w K mg base CX0 k "_law_one" ["_law_bag_here", "_law_some"] (sp_one K)) : Cal P w K mg base CX0 (k + 2) "_law_spread" ["_law_bag_here", "_law_tokens"] (sp_spread K) := by
  refine cal_mk F g sc__law_spread (fun vs H Q E h => len__law_spread h) (fun _ _ _ _ _ _ us hl => match us, hl with | [_, _], _ => rfl) (fun cdv A outer s H vs Q E hr h => ⟨t__law_spread K, ?_, pure__law_spread  vs H Q E h⟩)
  exact pss_cons (ps_par (i := 2) (j := 3) (by rfl) sc__law_spread.nd rfl rfl (by decide) rfl rfl (pa_cons (pf_callX c__law_one hr (Nat.le_succ _) (by rfl) pass0 (pa_cons (pv 0) (pa_cons (pe_lst (pa_cons pe_str (pa_cons pe_str (pa_cons pe_str pa_nil)))) pa_nil))) (pa_cons (pe_lst pa_nil) pa_nil)) (by rfl))
      (pss_cons (ps_for PassesOwn.never rfl (pi_enum (by rfl) T.n_enumerate (pa_cons (pv 1) pa_nil)) (pg_tup rfl (pgs_cons (pg_name (i := 4) sc__law_spread.nd rfl (.inl rfl)) (pgs_cons (pg_name (i := 5) sc__law_spread.nd rfl (.inl rfl)) pgs_nil)))
      (pss_cons (ps_expr (pe_bm PySem.F.plainAttrs_list PySem.F.slot_list_append PySem.F.type_list_append mt_append (pv 3) (pa_cons (pe_callB call_len_str (by rfl) T.n_len (by decide +kernel) (pa_cons (pv 2) pa_nil)) pa_nil)))
      (pss_cons (ps_set (i := 2) sc__law_spread.nd rfl (.inl rfl) (pe_op op_add_str (pe_op op_add_str (pv 2) (pv 5)) (pf_callX c__law_one hr (Nat.le_succ _) (by rfl) pass0 (pa_cons (pv 0) (pa_cons (pe_lst (pa_cons pe_str (pa_cons pe_str (pa_cons pe_str (pa_cons pe_str (pa_cons pe_str pa_nil)))))) pa_nil)))))
      (pss_one (ps_if ((pw_and (pt_cmpR op_lt (pe_op op_add (pv 4) pe_int) (pe_callB call_len_seq (by rfl) T.n_len (by decide +kernel) (pa_cons (pv 1) pa_nil)) (nomark _)) (pw_and (pt_val (pe_m0 PySem.F.slot_str_isalpha PySem.F.type_str_isalpha mt_isalpha (pe_slice sl_str (pv 2) (po_some (pe_un un_neg pe_int)) po_none))) (pw_and1 (pt_val (pe_m0 PySem.F.slot_str_isalpha PySem.F.type_str_isalpha mt_isalpha (pe_ix ix_list (pv 1) (pe_op op_add (pv 4) pe_int) (fun _ _ => rfl))))))).pt) (pss_one (ps_set (i := 2) sc__law_spread.nd rfl (.inl rfl) (pe_op op_add_str (pv 2) pe_str))) pss_nil)))))
      (pss_one (ps_ret (pe_tup (pa_cons (pv 2) (pa_cons (pv 3) pa_nil))))))
theorem ok__law_at (T : Tx K mg) (F : FnP K "_law_at" s__law_at) (g : mg "_law_at" = some (.ref (He.ga K "_law_at"))) (c_read_steps : Cal P w K mg base (L2.CX P w) k "read_steps" ["text"] (sp_read_steps2 K)) : Cal P w K mg base CX0 (k + 2) "_law_at" ["_law_text"] (sp_at K) := by
  refine cal_mk F g sc__law_at (fun vs H Q E h => len__law_at h) (fun _ _ _ _ _ _ us hl => match us, hl with | [_], _ => rfl) (fun cdv A outer s H vs Q E hr h => ⟨t__law_at K, ?_, pure__law_at T.ix_BadText T.no_BadText_at T.k1 T.k2 T.k3 vs H Q E h⟩)
  exact pss_cons (ps_try_as (i := 1) rfl rfl sc__law_at.nd rfl rfl ⟨by rfl, by decide, .inl T.g_BadText⟩ takes0 (fun W pn xe tk _ => pss_one (ps_expr (pf_callS c_read_steps hr (Nat.le_succ _) (by rfl) (fun σ => passAt tk σ) (pa_cons (pv 0) pa_nil)))) (fun a oe cls d pn hz hf => pss_one (ps_ret (pe_ifExp ((pw_and (pt_val (pe_callB (call_isX hz hf) (by rfl) T.n_isinstance (by decide +kernel) (pa_cons (pv 1) (pa_cons (pe_gc (by rfl) T.c_EarlyError) pa_nil)))) (pw_and1 (pt_not (pt_val (pe_callB (call_isX hz hf) (by rfl) T.n_isinstance (by decide +kernel) (pa_cons (pv 1) (pa_cons (pe_gc (by rfl) T.c_TooMany) pa_nil))))))).pt) (pe_xg hz hf (pv 1)) pe_non))))
      (pss_one (ps_ret pe_non))
theorem ok__law_is_open (T : Tx K mg) (F : FnP K "_law_is_open" s__law_is_open) (g : mg "_law_is_open" = some (.ref (He.ga K "_law_is_open"))) : Cal P w K mg base CX0 (k + 2) "_law_is_open" ["_law_tokens"] (sp_is_open K) := by
  refine cal_mk F g sc__law_is_open (fun vs H Q E h => len__law_is_open h) (fun _ _ _ _ _ _ us hl => match us, hl with | [_], _ => rfl) (fun cdv A outer s H vs Q E hr h => ⟨t__law_is_open K, ?_, pure__law_is_open  vs H Q E h⟩)
  exact pss_cons (ps_if (pt_cmpR (op_eqD hr.units) (pv 0) (pe_lst pa_nil) (nomark _)) (pss_one (ps_ret pe_bl)) pss_nil)
      (pss_one (ps_ret (pe_or (pe_cmpR op_notIn_seq (pe_ix ix_list (pv 0) (pe_un un_neg pe_int) (fun _ _ => rfl)) (pe_lst (pa_cons pe_str (pa_cons pe_str pa_nil))) (by rfl)) (pe_one (pe_cmpR op_gt (pe_bm PySem.F.plainAttrs_list PySem.F.slot_list_count PySem.F.type_list_count mt_lcountV (pv 0) (pa_cons pe_str pa_nil)) (pe_bm PySem.F.plainAttrs_list PySem.F.slot_list_count PySem.F.type_list_count mt_lcountV (pv 0) (pa_cons pe_str pa_nil)) (nomark _))))))
theorem ok__law_wrong_word (T : Tx K mg) (F : FnP K "_law_wrong_word" s__law_wrong_word) (g : mg "_law_wrong_word" = some (.ref (He.ga K "_law_wrong_word"))) (c__law_one : Cal P w K mg base CX0 k "_law_one" ["_law_bag_here", "_law_some"] (sp_one K)) : Cal P w K mg base CX0 (k + 2) "_law_wrong_word" ["_law_bag_here", "_law_tokens"] (sp_wrong_word K) := by
  refine cal_mk F g sc__law_wrong_word (fun vs H Q E h => len__law_wrong_word h) (fun _ _ _ _ _ _ us hl => match us, hl with | [_, _], _ => rfl) (fun cdv A outer s H vs Q E hr h => ⟨t__law_wrong_word K, ?_, pure__law_wrong_word  vs H Q E h⟩)
  exact pss_cons (ps_setLc (i := 2) (own := [("_law_at_here", 4)]) (g := gName 4) (tt := tTest (tOp (rIn K false) (tOp (rIxL K) (tVar 1) (tOp rSubI (tVar 4) (tC (.int 1)))) (tLst (tCons (tC (.str "set")) (tCons (tC (.str "keep")) (tCons (tC (.str "read")) (tCons (tC (.str "look")) (tCons (tC (.str "call")) (tCons (tC (.str "if")) tNil))))))))) rfl sc__law_wrong_word.nd rfl rfl (sw_true rfl rfl rfl (by decide +kernel)) (pi_range2 (by rfl) T.n_range (pa_cons pe_int (pa_cons (pe_callB call_len_seq (by rfl) T.n_len (by decide +kernel) (pa_cons (pv 1) pa_nil)) pa_nil))) (blkOk_by (own := [("_law_at_here", 4)]) (N := ["_law_bag_here", "_law_tokens", "_law_some", "_law_more", "_law_at_here", "_law_wrong"]) (sc := defScope s__law_wrong_word) (by decide +kernel)) (fun _ _ _ _ _ => pg_name (i := 4) sc__law_wrong_word.nd rfl (.inl rfl)) (fun _ _ _ _ _ => pts_one (pt_cmpR op_in_seq (pe_ix ix_list (pv 1) (pe_op op_sub (pv 4) pe_int) (fun _ _ => rfl)) (pe_lst (pa_cons pe_str (pa_cons pe_str (pa_cons pe_str (pa_cons pe_str (pa_cons pe_str (pa_cons pe_str pa_nil))))))) (by rfl))) (fun _ _ _ _ _ => pv 4))
      (pss_cons (ps_setLc (i := 3) (own := [("_law_at_here", 4)]) (g := gName 4) (tt := tTest (tOp (rIn K false) (tOp (rIxL K) (tVar 1) (tOp rSubI (tVar 4) (tC (.int 1)))) (tLst (tCons (tC (.str "of")) (tCons (tC (.str "make")) tNil))))) rfl sc__law_wrong_word.nd rfl rfl (sw_true rfl rfl rfl (by decide +kernel)) (pi_range2 (by rfl) T.n_range (pa_cons pe_int (pa_cons (pe_callB call_len_seq (by rfl) T.n_len (by decide +kernel) (pa_cons (pv 1) pa_nil)) pa_nil))) (blkOk_by (own := [("_law_at_here", 4)]) (N := ["_law_bag_here", "_law_tokens", "_law_some", "_law_more", "_law_at_here", "_law_wrong"]) (sc := defScope s__law_wrong_word) (by decide +kernel)) (fun _ _ _ _ _ => pg_name (i := 4) sc__law_wrong_word.nd rfl (.inl rfl)) (fun _ _ _ _ _ => pts_one (pt_cmpR op_in_seq (pe_ix ix_list (pv 1) (pe_op op_sub (pv 4) pe_int) (fun _ _ => rfl)) (pe_lst (pa_cons pe_str (pa_cons pe_str pa_nil))) (by rfl))) (fun _ _ _ _ _ => pv 4))
      (pss_cons (ps_if (pt_cmpR (op_eqD hr.units) (pe_op op_cat (pv 2) (pv 3)) (pe_lst pa_nil) (nomark _)) (pss_one (ps_ret pe_non)) pss_nil)
      (pss_cons (ps_set (i := 4) sc__law_wrong_word.nd rfl (.inl rfl) (pf_callX c__law_one hr (Nat.le_succ _) (by rfl) pass0 (pa_cons (pv 0) (pa_cons (pe_op op_cat (pv 2) (pv 3)) pa_nil))))
      (pss_cons (ps_set (i := 5) sc__law_wrong_word.nd rfl (.inl rfl) (pe_op op_cat (pe_lst (pa_cons pe_str (pa_cons pe_str (pa_cons pe_str (pa_cons pe_str pa_nil))))) (pe_ifExp (pt_cmpR op_in_seq (pv 4) (pv 2) (by rfl)) (pe_lst (pa_cons pe_str (pa_cons pe_str (pa_cons pe_str pa_nil)))) (pe_lst (pa_cons pe_str (pa_cons pe_str (pa_cons pe_str pa_nil)))))))
      (pss_one (ps_ret (pe_tup (pa_cons (pe_op op_cat (pe_op op_cat (pe_slice sl_list (pv 1) po_none (po_some (pv 4))) (pe_lst (pa_cons (pf_callX c__law_one hr (Nat.le_succ _) (by rfl) pass0 (pa_cons (pv 0) (pa_cons (pv 5) pa_nil))) pa_nil))) (pe_slice sl_list (pv 1) (po_some (pe_op op_add (pv 4) pe_int)) po_none)) (pa_cons (pv 4) pa_nil)))))))))
theorem ok__law_deep (T : Tx K mg) (F : FnP K "_law_deep" s__law_deep) (g : mg "_law_deep" = some (.ref (He.ga K "_law_deep"))) : Cal P w K mg base CX0 (k + 2) "_law_deep" ["_law_tokens"] (sp_deep K) := by
  refine cal_mk F g sc__law_deep (fun vs H Q E h => len__law_deep h) (fun _ _ _ _ _ _ us hl => match us, hl with | [_], _ => rfl) (fun cdv A outer s H vs Q E hr h => ⟨t__law_deep K, ?_, pure__law_deep  vs H Q E h⟩)
  exact pss_cons (ps_set (i := 1) sc__law_deep.nd rfl (.inl rfl) pe_int)
      (pss_cons (ps_for PassesOwn.never rfl (pi_enum (by rfl) T.n_enumerate (pa_cons (pv 0) pa_nil)) (pg_tup rfl (pgs_cons (pg_name (i := 2) sc__law_deep.nd rfl (.inl rfl)) (pgs_cons (pg_name (i := 3) sc__law_deep.nd rfl (.inl rfl)) pgs_nil)))
      (pss_cons (ps_set (i := 1) sc__law_deep.nd rfl (.inl rfl) (pe_op op_add (pv 1) (pe_dget2 (hu_of hr) (pe_disp (pps_cons pe_str pe_int (pps_cons pe_str (pe_un un_neg pe_int) pps_nil)) rfl rfl (fun z => nomatch z) (by decide)) (pv 3) pe_int ⟨rfl, rfl, rfl, rfl⟩)))
      (pss_one (ps_if (pt_cmpR op_eq (pv 1) pe_int (nomark _)) (pss_one (ps_ret (pv 2))) pss_nil))))
      (pss_one (ps_ret (pe_un un_neg pe_int))))
theorem ok__law_other_end (T : Tx K mg) (F : FnP K "_law_other_end" s__law_other_end) (g : mg "_law_other_end" = some (.ref (He.ga K "_law_other_end"))) : Cal P w K mg base CX0 (k + 2) "_law_other_end" ["_law_tokens", "_law_at_here", "_law_by"] (sp_other_end K) := by
  refine cal_mk F g sc__law_other_end (fun vs H Q E h => len__law_other_end h) (fun _ _ _ _ _ _ us hl => match us, hl with | [_, _, _], _ => rfl) (fun cdv A outer s H vs Q E hr h => ⟨t__law_other_end K, ?_, pure__law_other_end  vs H Q E h⟩)
  exact pss_cons (ps_set (i := 3) sc__law_other_end.nd rfl (.inl rfl) pe_int)
      (pss_cons (ps_for PassesOwn.never rfl (pi_range1 (by rfl) T.n_range (pa_cons (pe_callB call_len_seq (by rfl) T.n_len (by decide +kernel) (pa_cons (pv 0) pa_nil)) pa_nil)) (pg_name (i := 4) sc__law_other_end.nd rfl (.inl rfl))
      (pss_cons (ps_set (i := 3) sc__law_other_end.nd rfl (.inl rfl) (pe_op op_add (pv 3) (pe_dget2 (hu_of hr) (pe_disp (pps_cons pe_str (pv 2) (pps_cons pe_str (pe_un un_neg (pv 2)) pps_nil)) rfl rfl (fun z => nomatch z) (by decide)) (pe_ix ix_list (pv 0) (pe_op op_add (pv 1) (pe_op op_mul (pv 4) (pv 2))) (fun _ _ => rfl)) pe_int ⟨rfl, rfl, rfl, rfl⟩)))
      (pss_one (ps_if (pt_cmpR op_eq (pv 3) pe_int (nomark _)) (pss_one (ps_ret (pe_op op_add (pv 1) (pe_op op_mul (pv 4) (pv 2))))) pss_nil))))
      (pss_one (ps_ret pe_int)))
theorem ok__law_left_out (T : Tx K mg) (F : FnP K "_law_left_out" s__law_left_out) (g : mg "_law_left_out" = some (.ref (He.ga K "_law_left_out"))) (c__law_other_end : Cal P w K mg base CX0 k "_law_other_end" ["_law_tokens", "_law_at_here", "_law_by"] (sp_other_end K)) (c__law_one : Cal P w K mg base CX0 k "_law_one" ["_law_bag_here", "_law_some"] (sp_one K)) : Cal P w K mg base CX0 (k + 2) "_law_left_out" ["_law_bag_here", "_law_tokens"] (sp_left_out K) := by
  refine cal_mk F g sc__law_left_out (fun vs H Q E h => len__law_left_out h) (fun _ _ _ _ _ _ us hl => match us, hl with | [_, _], _ => rfl) (fun cdv A outer s H vs Q E hr h => ⟨t__law_left_out K, ?_, pure__law_left_out  vs H Q E h⟩)
  exact pss_cons (ps_set (i := 2) sc__law_left_out.nd rfl (.inl rfl) (pe_lst pa_nil))
      (pss_cons (ps_for PassesOwn.never rfl (pi_enum (by rfl) T.n_enumerate (pa_cons (pv 1) pa_nil)) (pg_tup rfl (pgs_cons (pg_name (i := 3) sc__law_left_out.nd rfl (.inl rfl)) (pgs_cons (pg_name (i := 4) sc__law_left_out.nd rfl (.inl rfl)) pgs_nil)))
      (pss_one (ps_if (pt_cmpR op_in_seq (pv 4) (pe_lst (pa_cons pe_str (pa_cons pe_str (pa_cons pe_str pa_nil)))) (by rfl)) (pss_cons (ps_set (i := 5) sc__law_left_out.nd rfl (.inl rfl) (pf_callX c__law_other_end hr (Nat.le_succ _) (by rfl) pass0 (pa_cons (pv 1) (pa_cons (pe_op op_add (pv 3) pe_int) (pa_cons pe_int pa_nil)))))
      (pss_cons (ps_set (i := 6) sc__law_left_out.nd rfl (.inl rfl) (pf_callX c__law_other_end hr (Nat.le_succ _) (by rfl) pass0 (pa_cons (pv 1) (pa_cons (pe_op op_sub (pv 3) pe_int) (pa_cons (pe_un un_neg pe_int) pa_nil)))))
      (pss_one (ps_if ((pw_or (pt_cmpR op_ne (pv 4) pe_str (nomark _)) (pw_or1 ((pw_and (pt_cmpR op_eq (pe_ix ix_list (pv 1) (pe_op op_sub (pv 6) pe_int) (fun _ _ => rfl)) pe_str (nomark _)) (pw_and1 (pt_cmpR (op_neD hr.units) (pe_slice sl_list (pv 1) (po_some (pe_op op_add (pv 5) pe_int)) (po_some (pe_op op_add (pv 5) pe_int))) (pe_lst (pa_cons pe_str pa_nil)) (nomark _)))).pt))).pt) (pss_one (ps_expr (pe_bm PySem.F.plainAttrs_list PySem.F.slot_list_append PySem.F.type_list_append mt_append (pv 2) (pa_cons (pe_tup (pa_cons (pe_op op_cat (pe_slice sl_list (pv 1) po_none (po_some (pv 3))) (pe_slice sl_list (pv 1) (po_some (pe_op op_add (pv 5) pe_int)) po_none)) (pa_cons (pv 3) pa_nil))) pa_nil)))) pss_nil)))) pss_nil)))
      (pss_one (ps_ret (pe_ifExp (pt_cmpR (op_eqD hr.units) (pv 2) (pe_lst pa_nil) (nomark _)) pe_non (pf_callX c__law_one hr (Nat.le_succ _) (by rfl) pass0 (pa_cons (pv 0) (pa_cons (pv 2) pa_nil)))))))
theorem ok__law_spoiled (T : Tx K mg) (F : FnP K "_law_spoiled" s__law_spoiled) (g : mg "_law_spoiled" = some (.ref (He.ga K "_law_spoiled"))) (c__law_draw : Cal P w K mg base CX0 k "_law_draw" ["_law_bag_here", "_law_many"] sp_draw) (c__law_left_out : Cal P w K mg base CX0 k "_law_left_out" ["_law_bag_here", "_law_tokens"] (sp_left_out K)) (c__law_one : Cal P w K mg base CX0 k "_law_one" ["_law_bag_here", "_law_some"] (sp_one K)) (c__law_is_open : Cal P w K mg base CX0 k "_law_is_open" ["_law_tokens"] (sp_is_open K)) (c__law_wrong_word : Cal P w K mg base CX0 k "_law_wrong_word" ["_law_bag_here", "_law_tokens"] (sp_wrong_word K)) : Cal P w K mg base CX0 (k + 2) "_law_spoiled" ["_law_bag_here", "_law_tokens"] (sp_spoiled K) := by
  refine cal_mk F g sc__law_spoiled (fun vs H Q E h => len__law_spoiled h) (fun _ _ _ _ _ _ us hl => match us, hl with | [_, _], _ => rfl) (fun cdv A outer s H vs Q E hr h => ⟨t__law_spoiled K, ?_, pure__law_spoiled  vs H Q E h⟩)
  exact pss_cons (ps_par (i := 2) (j := 3) (by rfl) sc__law_spoiled.nd rfl rfl (by decide) rfl rfl (pa_cons (pf_callX c__law_draw hr (Nat.le_succ _) (by rfl) pass0 (pa_cons (pv 0) (pa_cons pe_int pa_nil))) (pa_cons (pf_callX c__law_draw hr (Nat.le_succ _) (by rfl) pass0 (pa_cons (pv 0) (pa_cons (pe_op op_add (pe_callB call_len_seq (by rfl) T.n_len (by decide +kernel) (pa_cons (pv 1) pa_nil)) pe_int) pa_nil))) pa_nil)) (by rfl))
      (pss_cons (ps_if (pt_cmpR op_eq (pv 2) pe_int (nomark _)) (pss_cons (ps_set (i := 4) sc__law_spoiled.nd rfl (.inl rfl) (pf_callX c__law_left_out hr (Nat.le_succ _) (by rfl) pass0 (pa_cons (pv 0) (pa_cons (pv 1) pa_nil))))
      (pss_one (ps_if (pt_cmpR op_notN (pv 4) pe_non (nomark _)) (pss_one (ps_ret (pv 4))) pss_nil))) pss_nil)
      (pss_cons (ps_if (pt_cmpR op_eq (pv 2) pe_int (nomark _)) (pss_one (ps_ret (pe_tup (pa_cons (pe_op op_cat (pe_op op_cat (pe_slice sl_list (pv 1) po_none (po_some (pv 3))) (pe_lst (pa_cons (pf_callX c__law_one hr (Nat.le_succ _) (by rfl) pass0 (pa_cons (pv 0) (pa_cons (pe_lst (pa_cons pe_str (pa_cons pe_str (pa_cons pe_str (pa_cons pe_str (pa_cons pe_str (pa_cons pe_str (pa_cons pe_str pa_nil)))))))) pa_nil))) pa_nil))) (pe_slice sl_list (pv 1) (po_some (pv 3)) po_none)) (pa_cons (pv 3) pa_nil))))) pss_nil)
      (pss_cons (ps_if (pt_cmpR op_eq (pv 2) pe_int (nomark _)) (pss_cons (ps_setLc (i := 5) (own := [("_law_cut", 6)]) (g := gName 6) (tt := tB (tCall (sp_is_open K) [] E0 (tCons (tSl (rSlL K) (tVar 1) tNoPart (tPart (tVar 6))) tNil))) rfl sc__law_spoiled.nd rfl rfl (sw_true rfl rfl rfl (by decide +kernel)) (pi_range2 (by rfl) T.n_range (pa_cons pe_int (pa_cons (pe_callB call_len_seq (by rfl) T.n_len (by decide +kernel) (pa_cons (pv 1) pa_nil)) pa_nil))) (blkOk_by (own := [("_law_cut", 6)]) (N := ["_law_bag_here", "_law_tokens", "_law_kind", "_law_at_here", "_law_found", "_law_some", "_law_cut", "_law_more"]) (sc := defScope s__law_spoiled) (by decide +kernel)) (fun _ _ _ _ _ => pg_name (i := 6) sc__law_spoiled.nd rfl (.inl rfl)) (fun _ _ _ _ _ => pts_one (pt_val (pf_callX c__law_is_open hr (Nat.le_succ _) (by rfl) pass0 (pa_cons (pe_slice sl_list (pv 1) po_none (po_some (pv 6))) pa_nil)))) (fun _ _ _ _ _ => pv 6))
      (pss_one (ps_if (pt_cmpR (op_neD hr.units) (pv 5) (pe_lst pa_nil) (nomark _)) (pss_cons (ps_set (i := 6) sc__law_spoiled.nd rfl (.inl rfl) (pf_callX c__law_one hr (Nat.le_succ _) (by rfl) pass0 (pa_cons (pv 0) (pa_cons (pv 5) pa_nil))))
      (pss_one (ps_ret (pe_tup (pa_cons (pe_slice sl_list (pv 1) po_none (po_some (pv 6))) (pa_cons (pv 6) pa_nil)))))) pss_nil))) pss_nil)
      (pss_cons (ps_if (pt_cmpR op_eq (pv 2) pe_int (nomark _)) (pss_cons (ps_set (i := 4) sc__law_spoiled.nd rfl (.inl rfl) (pf_callX c__law_wrong_word hr (Nat.le_succ _) (by rfl) pass0 (pa_cons (pv 0) (pa_cons (pv 1) pa_nil))))
      (pss_one (ps_if (pt_cmpR op_notN (pv 4) pe_non (nomark _)) (pss_one (ps_ret (pv 4))) pss_nil))) pss_nil)
      (pss_cons (ps_set (i := 7) sc__law_spoiled.nd rfl (.inl rfl) (pe_lst (pa_cons pe_str (pa_cons pe_str (pa_cons pe_str (pa_cons pe_str (pa_cons pe_str (pa_cons pe_str (pa_cons pe_str (pa_cons pe_str (pa_cons pe_str (pa_cons pe_str (pa_cons pe_str pa_nil)))))))))))))
      (pss_one (ps_ret (pe_tup (pa_cons (pe_op op_cat (pv 1) (pe_lst (pa_cons (pf_callX c__law_one hr (Nat.le_succ _) (by rfl) pass0 (pa_cons (pv 0) (pa_cons (pv 7) pa_nil))) pa_nil))) (pa_cons (pe_callB call_len_seq (by rfl) T.n_len (by decide +kernel) (pa_cons (pv 1) pa_nil)) pa_nil))))))))))
theorem ok_law (T : Tx K mg) {fd : FuncData} (F : FunD K "law" "law" (defArgs s_law) (defBody s_law) (defScope s_law) [] [] (He.ga K "law") fd) (c__law_at : Cal P w K mg base CX0 k "_law_at" ["_law_text"] (sp_at K)) (c__law_bag : Cal P w K mg base CX0 k "_law_bag" ["_law_script", "_law_at_here"] (sp_bag K)) (c__law_start : Cal P w K mg base CX0 k "_law_start" ["_law_bag_here"] (sp_start K)) (c__law_draw : Cal P w K mg base CX0 k "_law_draw" ["_law_bag_here", "_law_many"] sp_draw) (c__law_body : Cal P w K mg base CX0 k "_law_body" ["_law_bag_here", "_law_words_here", "_law_room", "_law_depth"] (sp_lbody K 7)) (c__law_tower : Cal P w K mg base CX0 k "_law_tower" ["_law_bag_here", "_law_names", "_law_body_here", "_law_many"] (sp_tower K)) (c__law_signs : Cal P w K mg base CX0 k "_law_signs" ["_law_body_here"] (sp_signs K 9)) (c__law_spoiled : Cal P w K mg base CX0 k "_law_spoiled" ["_law_bag_here", "_law_tokens"] (sp_spoiled K)) (c__law_spread : Cal P w K mg base CX0 k "_law_spread" ["_law_bag_here", "_law_tokens"] (sp_spread K)) (c__law_deep : Cal P w K mg base CX0 k "_law_deep" ["_law_tokens"] (sp_deep K)) : FnOk P w K mg base CX0 (k + 2) (He.ga K "law") fd ["_law_script"] (sp_law K) := by
  refine fn_mk F sc_law (fun vs H Q E h => len_law h) (fun cdv A outer s H vs Q E hr h => ⟨t_law K, ?_, pure_law  vs H Q E h⟩)
  exact pss_cons (ps_for PassesOwn.never rfl (pi_list (pe_lst (pa_cons pe_non (pa_cons pe_bl (pa_cons pe_int (pa_cons (pe_un un_neg pe_int) (pa_cons (pe_tup pa_nil) (pa_cons (pe_tup (pa_cons pe_str pa_nil)) (pa_cons (pe_lst (pa_cons pe_str pa_nil)) (pa_cons (pe_tup (pa_cons (pe_tup (pa_cons pe_str pa_nil)) pa_nil)) pa_nil)))))))))) (pg_name (i := 1) sc_law.nd rfl (.inl rfl))
      (pss_one (ps_if (pt_cmpR op_ne (pf_callX c__law_at hr (Nat.le_succ _) (by rfl) pass0 (pa_cons (pv 1) pa_nil)) (pe_un un_neg pe_int) (nomark _)) (pss_one (ps_ret pe_bl)) pss_nil)))
      (pss_cons (ps_for PassesOwn.never rfl (pi_range1 (by rfl) T.n_range (pa_cons (pe_callB (call_max2 rfl) (by rfl) T.n_max (by decide +kernel) (pa_cons pe_int (pa_cons (pe_callB (call_min2 rfl) (by rfl) T.n_min (by decide +kernel) (pa_cons pe_int (pa_cons (pe_callB call_len_seq (by rfl) T.n_len (by decide +kernel) (pa_cons (pv 0) pa_nil)) pa_nil))) pa_nil))) pa_nil)) (pg_name (i := 2) sc_law.nd rfl (.inl rfl))
      (pss_cons (ps_set (i := 3) sc_law.nd rfl (.inl rfl) (pf_callX c__law_bag hr (Nat.le_succ _) (by rfl) pass0 (pa_cons (pv 0) (pa_cons (pv 2) pa_nil))))
      (pss_cons (ps_par (i := 4) (j := 5) (by rfl) sc_law.nd rfl rfl (by decide) rfl rfl (pa_cons (pf_callX c__law_start hr (Nat.le_succ _) (by rfl) pass0 (pa_cons (pv 3) pa_nil)) (pa_cons (pf_callX c__law_draw hr (Nat.le_succ _) (by rfl) pass0 (pa_cons (pv 3) (pa_cons pe_int pa_nil))) pa_nil)) (by rfl))
      (pss_cons (ps_set (i := 6) sc_law.nd rfl (.inl rfl) (pf_callX c__law_tower hr (Nat.le_succ _) (by rfl) pass0 (pa_cons (pv 3) (pa_cons (pe_ix ix_tup (pv 4) pe_int (fun _ _ => rfl)) (pa_cons (pf_callX c__law_body hr (Nat.le_succ _) (by rfl) pass0 (pa_cons (pv 3) (pa_cons (pv 4) (pa_cons (pe_lst (pa_cons pe_int pa_nil)) (pa_cons (pe_op op_sub pe_int (pv 5)) pa_nil))))) (pa_cons (pv 5) pa_nil))))))
      (pss_cons (ps_asg (pf_callX c__law_spoiled hr (Nat.le_succ _) (by rfl) pass0 (pa_cons (pv 3) (pa_cons (pf_callX c__law_signs hr (Nat.le_succ _) (by rfl) pass0 (pa_cons (pv 6) pa_nil)) pa_nil))) (pg_tup rfl (pgs_cons (pg_name (i := 7) sc_law.nd rfl (.inl rfl)) (pgs_cons (pg_name (i := 8) sc_law.nd rfl (.inl rfl)) pgs_nil))))
      (pss_cons (ps_asg (pf_callX c__law_spread hr (Nat.le_succ _) (by rfl) pass0 (pa_cons (pv 3) (pa_cons (pv 7) pa_nil))) (pg_tup rfl (pgs_cons (pg_name (i := 9) sc_law.nd rfl (.inl rfl)) (pgs_cons (pg_name (i := 10) sc_law.nd rfl (.inl rfl)) pgs_nil))))
      (pss_cons (ps_if (pt_cmpR op_ne (pf_callX c__law_at hr (Nat.le_succ _) (by rfl) pass0 (pa_cons (pv 9) pa_nil)) (pe_ix ix_list (pe_op op_cat (pv 10) (pe_lst (pa_cons (pe_callB call_len_str (by rfl) T.n_len (by decide +kernel) (pa_cons (pv 9) pa_nil)) pa_nil))) (pv 8) (fun _ _ => rfl)) (nomark _)) (pss_one (ps_ret pe_bl)) pss_nil)
      (pss_cons (ps_set (i := 11) sc_law.nd rfl (.inl rfl) (pf_callX c__law_signs hr (Nat.le_succ _) (by rfl) pass0 (pa_cons (pf_callX c__law_tower hr (Nat.le_succ _) (by rfl) pass0 (pa_cons (pv 3) (pa_cons (pe_ix ix_tup (pv 4) pe_int (fun _ _ => rfl)) (pa_cons (pe_tup (pa_cons (pe_tup (pa_cons pe_str pa_nil)) pa_nil)) (pa_cons pe_int pa_nil))))) pa_nil)))
      (pss_cons (ps_asg (pf_callX c__law_spread hr (Nat.le_succ _) (by rfl) pass0 (pa_cons (pv 3) (pa_cons (pv 11) pa_nil))) (pg_tup rfl (pgs_cons (pg_name (i := 9) sc_law.nd rfl (.inl rfl)) (pgs_cons (pg_name (i := 10) sc_law.nd rfl (.inl rfl)) pgs_nil))))
      (pss_one (ps_if (pt_cmpR op_ne (pf_callX c__law_at hr (Nat.le_succ _) (by rfl) pass0 (pa_cons (pv 9) pa_nil)) (pe_ix ix_list (pv 10) (pf_callX c__law_deep hr (Nat.le_succ _) (by rfl) pass0 (pa_cons (pv 11) pa_nil)) (fun _ _ => rfl)) (nomark _)) (pss_one (ps_ret pe_bl)) pss_nil)))))))))))
      (pss_one (ps_ret pe_bl)))
end
abbrev dd_fits_word : He.DefD := ⟨("fits_word", none), "fits_word", "fits_word", defArgs s_fits_word, defBody s_fits_word, defScope s_fits_word, [], []⟩
abbrev dd_fits_class : He.DefD := ⟨("fits_class", none), "fits_class", "fits_class", defArgs s_fits_class, defBody s_fits_class, defScope s_fits_class, [], []⟩
abbrev dd_tokens_of : He.DefD := ⟨("tokens_of", none), "tokens_of", "tokens_of", defArgs s_tokens_of, defBody s_tokens_of, defScope s_tokens_of, [], []⟩
abbrev dd_Reader___init__ : He.DefD := ⟨("Reader", some "__init__"), "__init__", "Reader.__init__", defArgs s_Reader___init__, defBody s_Reader___init__, defScope s_Reader___init__, [], []⟩
abbrev dd_Reader_peek : He.DefD := ⟨("Reader", some "peek"), "peek", "Reader.peek", defArgs s_Reader_peek, defBody s_Reader_peek, defScope s_Reader_peek, [], []⟩
abbrev dd_Reader_position : He.DefD := ⟨("Reader", some "position"), "position", "Reader.position", defArgs s_Reader_position, defBody s_Reader_position, defScope s_Reader_position, [], []⟩
abbrev dd_Reader_skip : He.DefD := ⟨("Reader", some "skip"), "skip", "Reader.skip", defArgs s_Reader_skip, defBody s_Reader_skip, defScope s_Reader_skip, [], []⟩
abbrev dd_Reader_read_word : He.DefD := ⟨("Reader", some "read_word"), "read_word", "Reader.read_word", defArgs s_Reader_read_word, defBody s_Reader_read_word, defScope s_Reader_read_word, [], []⟩
abbrev dd_Reader_read_class_name : He.DefD := ⟨("Reader", some "read_class_name"), "read_class_name", "Reader.read_class_name", defArgs s_Reader_read_class_name, defBody s_Reader_read_class_name, defScope s_Reader_read_class_name, [], []⟩
abbrev dd_read_block : He.DefD := ⟨("read_block", none), "read_block", "read_block", defArgs s_read_block, defBody s_read_block, defScope s_read_block, [], []⟩
abbrev dd_read_either : He.DefD := ⟨("read_either", none), "read_either", "read_either", defArgs s_read_either, defBody s_read_either, defScope s_read_either, [], []⟩
abbrev dd_read_nested : He.DefD := ⟨("read_nested", none), "read_nested", "read_nested", defArgs s_read_nested, defBody s_read_nested, defScope s_read_nested, [], []⟩
abbrev dd_read_step : He.DefD := ⟨("read_step", none), "read_step", "read_step", defArgs s_read_step, defBody s_read_step, defScope s_read_step, [], []⟩
abbrev dd_read_body : He.DefD := ⟨("read_body", none), "read_body", "read_body", defArgs s_read_body, defBody s_read_body, defScope s_read_body, [], []⟩
abbrev dd_read_steps : He.DefD := ⟨("read_steps", none), "read_steps", "read_steps", defArgs s_read_steps, defBody s_read_steps, defScope s_read_steps, [], []⟩
abbrev dd__law_bag : He.DefD := ⟨("_law_bag", none), "_law_bag", "_law_bag", defArgs s__law_bag, defBody s__law_bag, defScope s__law_bag, [], []⟩
abbrev dd__law_draw : He.DefD := ⟨("_law_draw", none), "_law_draw", "_law_draw", defArgs s__law_draw, defBody s__law_draw, defScope s__law_draw, [], []⟩
abbrev dd__law_one : He.DefD := ⟨("_law_one", none), "_law_one", "_law_one", defArgs s__law_one, defBody s__law_one, defScope s__law_one, [], []⟩
abbrev dd__law_words : He.DefD := ⟨("_law_words", none), "_law_words", "_law_words", defArgs s__law_words, defBody s__law_words, defScope s__law_words, [], []⟩
abbrev dd__law_labels : He.DefD := ⟨("_law_labels", none), "_law_labels", "_law_labels", defArgs s__law_labels, defBody s__law_labels, defScope s__law_labels, [], []⟩
abbrev dd__law_step : He.DefD := ⟨("_law_step", none), "_law_step", "_law_step", defArgs s__law_step, defBody s__law_step, defScope s__law_step, [], []⟩
abbrev dd__law_body : He.DefD := ⟨("_law_body", none), "_law_body", "_law_body", defArgs s__law_body, defBody s__law_body, defScope s__law_body, [], []⟩
abbrev dd__law_start : He.DefD := ⟨("_law_start", none), "_law_start", "_law_start", defArgs s__law_start, defBody s__law_start, defScope s__law_start, [], []⟩
abbrev dd__law_tower : He.DefD := ⟨("_law_tower", none), "_law_tower", "_law_tower", defArgs s__law_tower, defBody s__law_tower, defScope s__law_tower, [], []⟩
abbrev dd__law_signs : He.DefD := ⟨("_law_signs", none), "_law_signs", "_law_signs", defArgs s__law_signs, defBody s__law_signs, defScope s__law_signs, [], []⟩
abbrev dd__law_curly : He.DefD := ⟨("_law_curly", none), "_law_curly", "_law_curly", defArgs s__law_curly, defBody s__law_curly, defScope s__law_curly, [], []⟩
abbrev dd__law_spread : He.DefD := ⟨("_law_spread", none), "_law_spread", "_law_spread", defArgs s__law_spread, defBody s__law_spread, defScope s__law_spread, [], []⟩
abbrev dd__law_at : He.DefD := ⟨("_law_at", none), "_law_at", "_law_at", defArgs s__law_at, defBody s__law_at, defScope s__law_at, [], []⟩
abbrev dd__law_is_open : He.DefD := ⟨("_law_is_open", none), "_law_is_open", "_law_is_open", defArgs s__law_is_open, defBody s__law_is_open, defScope s__law_is_open, [], []⟩
abbrev dd__law_wrong_word : He.DefD := ⟨("_law_wrong_word", none), "_law_wrong_word", "_law_wrong_word", defArgs s__law_wrong_word, defBody s__law_wrong_word, defScope s__law_wrong_word, [], []⟩
abbrev dd__law_deep : He.DefD := ⟨("_law_deep", none), "_law_deep", "_law_deep", defArgs s__law_deep, defBody s__law_deep, defScope s__law_deep, [], []⟩
abbrev dd__law_other_end : He.DefD := ⟨("_law_other_end", none), "_law_other_end", "_law_other_end", defArgs s__law_other_end, defBody s__law_other_end, defScope s__law_other_end, [], []⟩
abbrev dd__law_left_out : He.DefD := ⟨("_law_left_out", none), "_law_left_out", "_law_left_out", defArgs s__law_left_out, defBody s__law_left_out, defScope s__law_left_out, [], []⟩
abbrev dd__law_spoiled : He.DefD := ⟨("_law_spoiled", none), "_law_spoiled", "_law_spoiled", defArgs s__law_spoiled, defBody s__law_spoiled, defScope s__law_spoiled, [], []⟩
abbrev dd_law : He.DefD := ⟨("law", none), "law", "law", defArgs s_law, defBody s_law, defScope s_law, [], []⟩
abbrev dd_BadText___init__ : He.DefD := ⟨("BadText", some "__init__"), "__init__", "BadText.__init__", defArgs s_BadText___init__, defBody s_BadText___init__, defScope s_BadText___init__, [], []⟩
def fn : List He.DefD := [dd_fits_word, dd_fits_class, dd_tokens_of, dd_Reader___init__, dd_Reader_peek, dd_Reader_position, dd_Reader_skip, dd_Reader_read_word, dd_Reader_read_class_name, dd_read_block, dd_read_either, dd_read_nested, dd_read_step, dd_read_body, dd_read_steps, dd__law_bag, dd__law_draw, dd__law_one, dd__law_words, dd__law_labels, dd__law_step, dd__law_body, dd__law_start, dd__law_tower, dd__law_signs, dd__law_curly, dd__law_spread, dd__law_at, dd__law_is_open, dd__law_wrong_word, dd__law_deep, dd__law_other_end, dd__law_left_out, dd__law_spoiled, dd_law, dd_BadText___init__]
def fa : List He.Fa := [.glo "fits_word", .glo "fits_class", .glo "tokens_of", .glo "read_block", .glo "read_either", .glo "read_nested", .glo "read_step", .glo "read_body", .glo "read_steps", .glo "_law_bag", .glo "_law_draw", .glo "_law_one", .glo "_law_words", .glo "_law_labels", .glo "_law_step", .glo "_law_body", .glo "_law_start", .glo "_law_tower", .glo "_law_signs", .glo "_law_curly", .glo "_law_spread", .glo "_law_at", .glo "_law_is_open", .glo "_law_wrong_word", .glo "_law_deep", .glo "_law_other_end", .glo "_law_left_out", .glo "_law_spoiled", .glo "law", .free "len", .free "all", .free "tuple", .free "str", .free "isinstance", .free "enumerate", .free "int", .free "abs", .free "list", .free "range", .free "min", .free "max", .str "SMALL" "abcdefghijklmnopqrstuvwxyz", .str "LARGE" "ABCDEFGHIJKLMNOPQRSTUVWXYZ", .str "LETTERS" "abcdefghijklmnopqrstuvwxyzABCDEFGHIJKLMNOPQRSTUVWXYZ", .str "BLANKS" " \n", .int "MOST_LETTERS" 8, .glo "RESERVED", .glo "WORD_STEPS", .glo "CLASS_STEPS", .glo "NESTED_STEPS", .glo "STARTS", .int "MOST_BLOCKS" 6, .glo "EarlyError", .glo "TooMany", .cls "Reader", .noat "Reader" "tokens", .noat "Reader" "length", .noat "Reader" "passed", .mkr "Reader", .glo "Reader", .meth "Reader" "peek", .meth "Reader" "position", .meth "Reader" "skip", .meth "Reader" "read_word", .meth "Reader" "read_class_name", .glo "BadText", .noat "BadText" "at"]
def bs : List (PySem.W.Frag → Bool) := [fun K => He.tupB K "RESERVED" (reserved.map He.Dv.str), fun K => He.tupB K "WORD_STEPS" (wordSteps.map He.Dv.str), fun K => He.tupB K "CLASS_STEPS" (classSteps.map He.Dv.str), fun K => He.tupB K "NESTED_STEPS" (nestedSteps.map He.Dv.str), fun K => He.tupB K "STARTS" (startSteps.map He.Dv.str), fun K => oexB K "BadText", fun K => oexI K "BadText", fun K => isxB K "BadText", fun K => decide (PySem.W.exmOne K (.ref (He.ga K "BadText")) (.ref (He.ga K "BadText")) = some true), fun K => decide (PySem.W.kitOne K (.ref (He.ga K "BadText")) (.ref (He.ga K "EarlyError")) = some true), fun K => decide (PySem.W.kitOne K (.ref (He.ga K "BadText")) (.ref (He.ga K "TooMany")) = some false)]
abbrev Rw : PySem.W.OpenRow := PySem.W.OpenLaw.row PySem.Challenge.rw_earlyfields_k03_bodies_refused
abbrev hk : PySem.W.Hook := hookB 6 fa fn bs
def ob (s : PySem.W.SharedT) : AlB := obsBG 6 fa fn bs (HandSHeadRun.getT s)
theorem ob_eq (s : PySem.W.SharedT) : ob s = hk.obs s.abs := obsBG_eq (HandSHeadRun.getT_eq s)
def loose0 : List PySem.Str := ["_wall", "EarlyError", "BadText", "TooMany", "SMALL", "LARGE", "LETTERS", "BLANKS", "MOST_LETTERS", "RESERVED", "fits_word", "fits_class", "tokens_of", "Reader", "WORD_STEPS", "CLASS_STEPS", "BARE_STEPS", "NESTED_STEPS", "STARTS", "MOST_BLOCKS", "read_block", "read_either", "read_nested", "read_step", "read_body", "read_steps", "_law_bag", "_law_draw", "_law_one", "_law_words"]
def loose1 : List PySem.Str := ["_law_labels", "_law_step", "_law_body", "_law_start", "_law_tower", "_law_signs", "_law_curly", "_law_spread", "_law_at", "_law_is_open", "_law_wrong_word", "_law_deep", "_law_other_end", "_law_left_out", "_law_spoiled"]
def loose : List PySem.Str := loose0 ++ loose1
theorem runTop (w : World) : HandSHeadRun.RunEq Rw (PySem.W.view Rw.prog [49]) hk ob 6000 loose w := by
  intro os
  kernel_rfl
theorem tx {K : PySem.W.Frag} {h : Heap} {mg : Str → Option Value} (X : K.In h) (G : h.Ns mainGlobals mg) (c : SaysB fa fn bs K) : Tx K mg where
  n_len := He.free_ok X G (c.d.fact 29 (f := .free "len") rfl)
  n_all := He.free_ok X G (c.d.fact 30 (f := .free "all") rfl)
  n_tuple := He.free_ok X G (c.d.fact 31 (f := .free "tuple") rfl)
  n_str := He.free_ok X G (c.d.fact 32 (f := .free "str") rfl)
  n_isinstance := He.free_ok X G (c.d.fact 33 (f := .free "isinstance") rfl)
  n_enumerate := He.free_ok X G (c.d.fact 34 (f := .free "enumerate") rfl)
  n_int := He.free_ok X G (c.d.fact 35 (f := .free "int") rfl)
  n_abs := He.free_ok X G (c.d.fact 36 (f := .free "abs") rfl)
  n_list := He.free_ok X G (c.d.fact 37 (f := .free "list") rfl)
  n_range := He.free_ok X G (c.d.fact 38 (f := .free "range") rfl)
  n_min := He.free_ok X G (c.d.fact 39 (f := .free "min") rfl)
  n_max := He.free_ok X G (c.d.fact 40 (f := .free "max") rfl)
  c_SMALL := (He.str_ok X G (c.d.fact 41 (f := .str "SMALL" "abcdefghijklmnopqrstuvwxyz") rfl)).elim fun t e => ⟨_, e, t, rfl⟩
  c_LARGE := (He.str_ok X G (c.d.fact 42 (f := .str "LARGE" "ABCDEFGHIJKLMNOPQRSTUVWXYZ") rfl)).elim fun t e => ⟨_, e, t, rfl⟩
  c_LETTERS := (He.str_ok X G (c.d.fact 43 (f := .str "LETTERS" "abcdefghijklmnopqrstuvwxyzABCDEFGHIJKLMNOPQRSTUVWXYZ") rfl)).elim fun t e => ⟨_, e, t, rfl⟩
  c_BLANKS := (He.str_ok X G (c.d.fact 44 (f := .str "BLANKS" " \n") rfl)).elim fun t e => ⟨_, e, t, rfl⟩
  c_MOST_LETTERS := (He.int_ok X G (c.d.fact 45 (f := .int "MOST_LETTERS" 8) rfl)).elim fun t e => ⟨_, e, t, rfl⟩
  c_RESERVED := ⟨_, He.glo_ok X G (c.d.fact 46 (f := .glo "RESERVED") rfl), rfl⟩
  q_RESERVED := fun H => He.tupB_ok (c.b 0 (b := fun K => He.tupB K "RESERVED" (reserved.map He.Dv.str)) rfl) H
  c_WORD_STEPS := ⟨_, He.glo_ok X G (c.d.fact 47 (f := .glo "WORD_STEPS") rfl), rfl⟩
  q_WORD_STEPS := fun H => He.tupB_ok (c.b 1 (b := fun K => He.tupB K "WORD_STEPS" (wordSteps.map He.Dv.str)) rfl) H
  c_CLASS_STEPS := ⟨_, He.glo_ok X G (c.d.fact 48 (f := .glo "CLASS_STEPS") rfl), rfl⟩
  q_CLASS_STEPS := fun H => He.tupB_ok (c.b 2 (b := fun K => He.tupB K "CLASS_STEPS" (classSteps.map He.Dv.str)) rfl) H
  c_NESTED_STEPS := ⟨_, He.glo_ok X G (c.d.fact 49 (f := .glo "NESTED_STEPS") rfl), rfl⟩
  q_NESTED_STEPS := fun H => He.tupB_ok (c.b 3 (b := fun K => He.tupB K "NESTED_STEPS" (nestedSteps.map He.Dv.str)) rfl) H
  c_STARTS := ⟨_, He.glo_ok X G (c.d.fact 50 (f := .glo "STARTS") rfl), rfl⟩
  q_STARTS := fun H => He.tupB_ok (c.b 4 (b := fun K => He.tupB K "STARTS" (startSteps.map He.Dv.str)) rfl) H
  c_MOST_BLOCKS := (He.int_ok X G (c.d.fact 51 (f := .int "MOST_BLOCKS" 6) rfl)).elim fun t e => ⟨_, e, t, rfl⟩
  c_EarlyError := ⟨_, He.glo_ok X G (c.d.fact 52 (f := .glo "EarlyError") rfl), rfl⟩
  c_TooMany := ⟨_, He.glo_ok X G (c.d.fact 53 (f := .glo "TooMany") rfl), rfl⟩
  cl_Reader := He.cls_ok (c.d.fact 54 (f := .cls "Reader") rfl)
  no_Reader_tokens := He.noat_ok (c.d.fact 55 (f := .noat "Reader" "tokens") rfl)
  no_Reader_length := He.noat_ok (c.d.fact 56 (f := .noat "Reader" "length") rfl)
  no_Reader_passed := He.noat_ok (c.d.fact 57 (f := .noat "Reader" "passed") rfl)
  mk_Reader := He.mkr_ok (c.d.fact 58 (f := .mkr "Reader") rfl)
  g_Reader := He.glo_ok X G (c.d.fact 59 (f := .glo "Reader") rfl)
  mt_Reader_peek := He.meth_ok (c.d.fact 60 (f := .meth "Reader" "peek") rfl)
  mt_Reader_position := He.meth_ok (c.d.fact 61 (f := .meth "Reader" "position") rfl)
  mt_Reader_skip := He.meth_ok (c.d.fact 62 (f := .meth "Reader" "skip") rfl)
  mt_Reader_read_word := He.meth_ok (c.d.fact 63 (f := .meth "Reader" "read_word") rfl)
  mt_Reader_read_class_name := He.meth_ok (c.d.fact 64 (f := .meth "Reader" "read_class_name") rfl)
  g_BadText := He.glo_ok X G (c.d.fact 65 (f := .glo "BadText") rfl)
  ox_BadText := oexB_ok (c.b 5 (b := fun K => oexB K "BadText") rfl)
  oi_BadText := oexI_ok (c.b 6 (b := fun K => oexI K "BadText") rfl)
  ix_BadText := isxB_ok (c.b 7 (b := fun K => isxB K "BadText") rfl)
  no_BadText_at := He.noat_ok (c.d.fact 66 (f := .noat "BadText" "at") rfl)
  k1 := of_decide_eq_true (c.b 8 (b := fun K => decide (PySem.W.exmOne K (.ref (He.ga K "BadText")) (.ref (He.ga K "BadText")) = some true)) rfl)
  k2 := of_decide_eq_true (c.b 9 (b := fun K => decide (PySem.W.kitOne K (.ref (He.ga K "BadText")) (.ref (He.ga K "EarlyError")) = some true)) rfl)
  k3 := of_decide_eq_true (c.b 10 (b := fun K => decide (PySem.W.kitOne K (.ref (He.ga K "BadText")) (.ref (He.ga K "TooMany")) = some false)) rfl)
structure Fns (K : PySem.W.Frag) (mg : Str → Option Value) : Prop where
  F_fits_word : FnP K "fits_word" s_fits_word
  g_fits_word : mg "fits_word" = some (.ref (He.ga K "fits_word"))
  F_fits_class : FnP K "fits_class" s_fits_class
  g_fits_class : mg "fits_class" = some (.ref (He.ga K "fits_class"))
  F_tokens_of : FnP K "tokens_of" s_tokens_of
  g_tokens_of : mg "tokens_of" = some (.ref (He.ga K "tokens_of"))
  F_Reader___init__ : FnM K "Reader" "__init__" "Reader.__init__" s_Reader___init__
  F_Reader_peek : FnM K "Reader" "peek" "Reader.peek" s_Reader_peek
  F_Reader_position : FnM K "Reader" "position" "Reader.position" s_Reader_position
  F_Reader_skip : FnM K "Reader" "skip" "Reader.skip" s_Reader_skip
  F_Reader_read_word : FnM K "Reader" "read_word" "Reader.read_word" s_Reader_read_word
  F_Reader_read_class_name : FnM K "Reader" "read_class_name" "Reader.read_class_name" s_Reader_read_class_name
  F_read_block : FnP K "read_block" s_read_block
  g_read_block : mg "read_block" = some (.ref (He.ga K "read_block"))
  F_read_either : FnP K "read_either" s_read_either
  g_read_either : mg "read_either" = some (.ref (He.ga K "read_either"))
  F_read_nested : FnP K "read_nested" s_read_nested
  g_read_nested : mg "read_nested" = some (.ref (He.ga K "read_nested"))
  F_read_step : FnP K "read_step" s_read_step
  g_read_step : mg "read_step" = some (.ref (He.ga K "read_step"))
  F_read_body : FnP K "read_body" s_read_body
  g_read_body : mg "read_body" = some (.ref (He.ga K "read_body"))
  F_read_steps : FnP K "read_steps" s_read_steps
  g_read_steps : mg "read_steps" = some (.ref (He.ga K "read_steps"))
  F__law_bag : FnP K "_law_bag" s__law_bag
  g__law_bag : mg "_law_bag" = some (.ref (He.ga K "_law_bag"))
  F__law_draw : FnP K "_law_draw" s__law_draw
  g__law_draw : mg "_law_draw" = some (.ref (He.ga K "_law_draw"))
  F__law_one : FnP K "_law_one" s__law_one
  g__law_one : mg "_law_one" = some (.ref (He.ga K "_law_one"))
  F__law_words : FnP K "_law_words" s__law_words
  g__law_words : mg "_law_words" = some (.ref (He.ga K "_law_words"))
  F__law_labels : FnP K "_law_labels" s__law_labels
  g__law_labels : mg "_law_labels" = some (.ref (He.ga K "_law_labels"))
  F__law_step : FnP K "_law_step" s__law_step
  g__law_step : mg "_law_step" = some (.ref (He.ga K "_law_step"))
  F__law_body : FnP K "_law_body" s__law_body
  g__law_body : mg "_law_body" = some (.ref (He.ga K "_law_body"))
  F__law_start : FnP K "_law_start" s__law_start
  g__law_start : mg "_law_start" = some (.ref (He.ga K "_law_start"))
  F__law_tower : FnP K "_law_tower" s__law_tower
  g__law_tower : mg "_law_tower" = some (.ref (He.ga K "_law_tower"))
  F__law_signs : FnP K "_law_signs" s__law_signs
  g__law_signs : mg "_law_signs" = some (.ref (He.ga K "_law_signs"))
  F__law_curly : FnP K "_law_curly" s__law_curly
  g__law_curly : mg "_law_curly" = some (.ref (He.ga K "_law_curly"))
  F__law_spread : FnP K "_law_spread" s__law_spread
  g__law_spread : mg "_law_spread" = some (.ref (He.ga K "_law_spread"))
  F__law_at : FnP K "_law_at" s__law_at
  g__law_at : mg "_law_at" = some (.ref (He.ga K "_law_at"))
  F__law_is_open : FnP K "_law_is_open" s__law_is_open
  g__law_is_open : mg "_law_is_open" = some (.ref (He.ga K "_law_is_open"))
  F__law_wrong_word : FnP K "_law_wrong_word" s__law_wrong_word
  g__law_wrong_word : mg "_law_wrong_word" = some (.ref (He.ga K "_law_wrong_word"))
  F__law_deep : FnP K "_law_deep" s__law_deep
  g__law_deep : mg "_law_deep" = some (.ref (He.ga K "_law_deep"))
  F__law_other_end : FnP K "_law_other_end" s__law_other_end
  g__law_other_end : mg "_law_other_end" = some (.ref (He.ga K "_law_other_end"))
  F__law_left_out : FnP K "_law_left_out" s__law_left_out
  g__law_left_out : mg "_law_left_out" = some (.ref (He.ga K "_law_left_out"))
  F__law_spoiled : FnP K "_law_spoiled" s__law_spoiled
  g__law_spoiled : mg "_law_spoiled" = some (.ref (He.ga K "_law_spoiled"))
  F_BadText___init__ : FnM K "BadText" "__init__" "BadText.__init__" s_BadText___init__
theorem fns {K : PySem.W.Frag} {h : Heap} {mg : Str → Option Value} (X : K.In h) (G : h.Ns mainGlobals mg) (c : SaysB fa fn bs K) : Fns K mg where
  F_fits_word := c.d.def_ 0 (d := dd_fits_word) rfl
  g_fits_word := He.glo_ok X G (c.d.fact 0 (f := .glo "fits_word") rfl)
  F_fits_class := c.d.def_ 1 (d := dd_fits_class) rfl
  g_fits_class := He.glo_ok X G (c.d.fact 1 (f := .glo "fits_class") rfl)
  F_tokens_of := c.d.def_ 2 (d := dd_tokens_of) rfl
  g_tokens_of := He.glo_ok X G (c.d.fact 2 (f := .glo "tokens_of") rfl)
  F_Reader___init__ := c.d.def_ 3 (d := dd_Reader___init__) rfl
  F_Reader_peek := c.d.def_ 4 (d := dd_Reader_peek) rfl
  F_Reader_position := c.d.def_ 5 (d := dd_Reader_position) rfl
  F_Reader_skip := c.d.def_ 6 (d := dd_Reader_skip) rfl
  F_Reader_read_word := c.d.def_ 7 (d := dd_Reader_read_word) rfl
  F_Reader_read_class_name := c.d.def_ 8 (d := dd_Reader_read_class_name) rfl
  F_read_block := c.d.def_ 9 (d := dd_read_block) rfl
  g_read_block := He.glo_ok X G (c.d.fact 3 (f := .glo "read_block") rfl)
  F_read_either := c.d.def_ 10 (d := dd_read_either) rfl
  g_read_either := He.glo_ok X G (c.d.fact 4 (f := .glo "read_either") rfl)
  F_read_nested := c.d.def_ 11 (d := dd_read_nested) rfl
  g_read_nested := He.glo_ok X G (c.d.fact 5 (f := .glo "read_nested") rfl)
  F_read_step := c.d.def_ 12 (d := dd_read_step) rfl
  g_read_step := He.glo_ok X G (c.d.fact 6 (f := .glo "read_step") rfl)
  F_read_body := c.d.def_ 13 (d := dd_read_body) rfl
  g_read_body := He.glo_ok X G (c.d.fact 7 (f := .glo "read_body") rfl)
  F_read_steps := c.d.def_ 14 (d := dd_read_steps) rfl
  g_read_steps := He.glo_ok X G (c.d.fact 8 (f := .glo "read_steps") rfl)
  F__law_bag := c.d.def_ 15 (d := dd__law_bag) rfl
  g__law_bag := He.glo_ok X G (c.d.fact 9 (f := .glo "_law_bag") rfl)
  F__law_draw := c.d.def_ 16 (d := dd__law_draw) rfl
  g__law_draw := He.glo_ok X G (c.d.fact 10 (f := .glo "_law_draw") rfl)
  F__law_one := c.d.def_ 17 (d := dd__law_one) rfl
  g__law_one := He.glo_ok X G (c.d.fact 11 (f := .glo "_law_one") rfl)
  F__law_words := c.d.def_ 18 (d := dd__law_words) rfl
  g__law_words := He.glo_ok X G (c.d.fact 12 (f := .glo "_law_words") rfl)
  F__law_labels := c.d.def_ 19 (d := dd__law_labels) rfl
  g__law_labels := He.glo_ok X G (c.d.fact 13 (f := .glo "_law_labels") rfl)
  F__law_step := c.d.def_ 20 (d := dd__law_step) rfl
  g__law_step := He.glo_ok X G (c.d.fact 14 (f := .glo "_law_step") rfl)
  F__law_body := c.d.def_ 21 (d := dd__law_body) rfl
  g__law_body := He.glo_ok X G (c.d.fact 15 (f := .glo "_law_body") rfl)
  F__law_start := c.d.def_ 22 (d := dd__law_start) rfl
  g__law_start := He.glo_ok X G (c.d.fact 16 (f := .glo "_law_start") rfl)
  F__law_tower := c.d.def_ 23 (d := dd__law_tower) rfl
  g__law_tower := He.glo_ok X G (c.d.fact 17 (f := .glo "_law_tower") rfl)
  F__law_signs := c.d.def_ 24 (d := dd__law_signs) rfl
  g__law_signs := He.glo_ok X G (c.d.fact 18 (f := .glo "_law_signs") rfl)
  F__law_curly := c.d.def_ 25 (d := dd__law_curly) rfl
  g__law_curly := He.glo_ok X G (c.d.fact 19 (f := .glo "_law_curly") rfl)
  F__law_spread := c.d.def_ 26 (d := dd__law_spread) rfl
  g__law_spread := He.glo_ok X G (c.d.fact 20 (f := .glo "_law_spread") rfl)
  F__law_at := c.d.def_ 27 (d := dd__law_at) rfl
  g__law_at := He.glo_ok X G (c.d.fact 21 (f := .glo "_law_at") rfl)
  F__law_is_open := c.d.def_ 28 (d := dd__law_is_open) rfl
  g__law_is_open := He.glo_ok X G (c.d.fact 22 (f := .glo "_law_is_open") rfl)
  F__law_wrong_word := c.d.def_ 29 (d := dd__law_wrong_word) rfl
  g__law_wrong_word := He.glo_ok X G (c.d.fact 23 (f := .glo "_law_wrong_word") rfl)
  F__law_deep := c.d.def_ 30 (d := dd__law_deep) rfl
  g__law_deep := He.glo_ok X G (c.d.fact 24 (f := .glo "_law_deep") rfl)
  F__law_other_end := c.d.def_ 31 (d := dd__law_other_end) rfl
  g__law_other_end := He.glo_ok X G (c.d.fact 25 (f := .glo "_law_other_end") rfl)
  F__law_left_out := c.d.def_ 32 (d := dd__law_left_out) rfl
  g__law_left_out := He.glo_ok X G (c.d.fact 26 (f := .glo "_law_left_out") rfl)
  F__law_spoiled := c.d.def_ 33 (d := dd__law_spoiled) rfl
  g__law_spoiled := He.glo_ok X G (c.d.fact 27 (f := .glo "_law_spoiled") rfl)
  F_BadText___init__ := c.d.def_ 35 (d := dd_BadText___init__) rfl
end Ef

namespace Ef
open PySem PySem.Spec PyProof.Rows L2
section
variable {P : Program} {w : World} {K : PySem.W.Frag} {mg : Str → Option Value} {base : Heap}
theorem j_peek (T : Tx K mg) (N : Fns K mg) {k : Nat} (h : 2 ≤ k) : Met P w K mg base CX0 k (He.ga K "Reader") "peek" ["self"] (sp_peek K) := (ok_Reader_peek (k := 0) T N.F_Reader_peek).mono h
theorem j_position (T : Tx K mg) (N : Fns K mg) {k : Nat} (h : 2 ≤ k) : Met P w K mg base CX0 k (He.ga K "Reader") "position" ["self"] (sp_position K) := (ok_Reader_position (k := 0) T N.F_Reader_position).mono h
theorem j_bad (T : Tx K mg) (N : Fns K mg) {k : Nat} (h : 1 ≤ k) : Err P w K mg base k "BadText" ["at"] := (ok_BadText (k := 0) T N.F_BadText___init__).mono h
theorem j_skip (T : Tx K mg) (N : Fns K mg) {k : Nat} (h : 4 ≤ k) : Met P w K mg base (L2.CX P w) k (He.ga K "Reader") "skip" ["self", "wanted"] (sp_skip K) := (ok_Reader_skip (k := 2) T N.F_Reader_skip (j_peek T N (by omega)) (j_position T N (by omega)) (j_bad T N (by omega))).mono h
theorem j_word (T : Tx K mg) (N : Fns K mg) {k : Nat} (h : 4 ≤ k) : Met P w K mg base (L2.CX P w) k (He.ga K "Reader") "read_word" ["self"] (sp_read_one K fitsW) := (ok_Reader_read_word (k := 2) T N.F_Reader_read_word (j_peek T N (by omega)) (ok_fits_word (k := 0) T N.F_fits_word N.g_fits_word) (j_position T N (by omega)) (j_bad T N (by omega))).mono h
theorem j_class (T : Tx K mg) (N : Fns K mg) {k : Nat} (h : 4 ≤ k) : Met P w K mg base (L2.CX P w) k (He.ga K "Reader") "read_class_name" ["self"] (sp_read_one K fitsC) := (ok_Reader_read_class_name (k := 2) T N.F_Reader_read_class_name (j_peek T N (by omega)) (ok_fits_class (k := 0) T N.F_fits_class N.g_fits_class) (j_position T N (by omega)) (j_bad T N (by omega))).mono h
theorem j_body (T : Tx K mg) (N : Fns K mg) : ∀ j d : Nat, d + j = 7 → Cal P w K mg base (L2.CX P w) (6 + 10 * j) "read_body" ["reader", "depth"] (sp_body K d)
  | 0, d, h => cal_mkX (k := 5) N.F_read_body N.g_read_body sc_read_body (fun vs H Q E h2 => absurd h2.1 (by omega)) (fun _ _ _ _ _ _ us hl => match us, hl with | [_, _], _ => rfl) (fun cdv A outer s H vs Q E hr h2 => absurd h2.1 (by omega))
  | j + 1, d, h => by
    have cb := j_body T N j (d + 1) (by omega)
    have c1 := ok_read_block (dp := d) T N.F_read_block N.g_read_block (j_position T N (by omega)) (j_skip T N (by omega)) cb (j_bad T N (by omega))
    have c2 := ok_read_either (dp := d) T N.F_read_either N.g_read_either c1 (j_skip T N (by omega)) (j_peek T N (by omega))
    have c3 := ok_read_nested (dp := d) T N.F_read_nested N.g_read_nested (c1.mono (Nat.le_add_right _ 2)) c2 (j_skip T N (by omega)) (j_word T N (by omega))
    have c4 := ok_read_step (dp := d) T N.F_read_step N.g_read_step (j_peek T N (by omega)) (j_skip T N (by omega)) c3 (j_word T N (by omega)) (j_class T N (by omega))
    have c5 := ok_read_body (dp := d) T N.F_read_body N.g_read_body (j_peek T N (by omega)) c4
    exact c5.mono (by omega)
theorem j_signs (T : Tx K mg) (N : Fns K mg) : ∀ d : Nat, Cal P w K mg base CX0 (2 + 6 * d) "_law_signs" ["_law_body_here"] (sp_signs K d)
  | 0 => cal_mk (k := 1) N.F__law_signs N.g__law_signs sc__law_signs (fun vs H Q E h => len__law_signs h) (fun _ _ _ _ _ _ us hl => match us, hl with | [_], _ => rfl) (fun cdv A outer s H vs Q E hr ⟨_, _, _, _, h, _⟩ => absurd h (by omega))
  | d + 1 => by
    have c0 := j_signs T N d
    have c1 := ok__law_curly (dp := d) T N.F__law_curly N.g__law_curly c0
    have c2 := ok__law_signs (dp := d) T N.F__law_signs N.g__law_signs c1
    exact c2.mono (by omega)
theorem j_draw (T : Tx K mg) (N : Fns K mg) {k : Nat} (h : 2 ≤ k) : Cal P w K mg base CX0 k "_law_draw" ["_law_bag_here", "_law_many"] sp_draw := (ok__law_draw (k := 0) T N.F__law_draw N.g__law_draw).mono h
theorem j_one (T : Tx K mg) (N : Fns K mg) {k : Nat} (h : 4 ≤ k) : Cal P w K mg base CX0 k "_law_one" ["_law_bag_here", "_law_some"] (sp_one K) := (ok__law_one (k := 2) T N.F__law_one N.g__law_one (j_draw T N (by omega))).mono h
theorem j_lbody (T : Tx K mg) (N : Fns K mg) : ∀ d : Nat, Cal P w K mg base CX0 (4 + 6 * d) "_law_body" ["_law_bag_here", "_law_words_here", "_law_room", "_law_depth"] (sp_lbody K d)
  | 0 => cal_mk (k := 3) N.F__law_body N.g__law_body sc__law_body (fun vs H Q E h => len__law_body h) (fun _ _ _ _ _ _ us hl => match us, hl with | [_, _, _, _], _ => rfl) (fun cdv A outer s H vs Q E hr ⟨_, h, _⟩ => absurd h (by omega))
  | d + 1 => by
    have c0 := j_lbody T N d
    have c1 := ok__law_step (dp := d) T N.F__law_step N.g__law_step (j_draw T N (by omega)) (j_one T N (by omega)) c0
    have c2 := ok__law_body (dp := d) T N.F__law_body N.g__law_body (j_draw T N (by omega)) c1
    exact c2.mono (by omega)
theorem join_law (T : Tx K mg) (N : Fns K mg) {fd : FuncData} (F : FunD K "law" "law" (defArgs s_law) (defBody s_law) (defScope s_law) [] [] (He.ga K "law") fd) : FnOk P w K mg base CX0 122 (He.ga K "law") fd ["_law_script"] (sp_law K) := by
  have c1 : Cal P w K mg base (L2.CX P w) 100 "read_steps" ["text"] (sp_read_steps2 K) := (ok_read_steps (k := 76) T N.F_read_steps N.g_read_steps ((ok_Reader___init__ (k := 2) T N.F_Reader___init__ (ok_tokens_of (k := 0) T N.F_tokens_of N.g_tokens_of)).mono (by omega)) (j_body T N 7 0 rfl) (j_peek T N (by omega)) (j_position T N (by omega)) (j_bad T N (by omega))).mono (by omega)
  have cat := ok__law_at (P := P) (w := w) (base := base) (k := 100) T N.F__law_at N.g__law_at c1
  have cw := (ok__law_words (P := P) (w := w) (base := base) (k := 4) T N.F__law_words N.g__law_words (j_draw T N (by omega)) (j_one T N (by omega)))
  have cl := (ok__law_labels (P := P) (w := w) (base := base) (k := 4) T N.F__law_labels N.g__law_labels (j_draw T N (by omega)) (j_one T N (by omega)))
  have coe := ok__law_other_end (P := P) (w := w) (base := base) (k := 4) T N.F__law_other_end N.g__law_other_end
  have clo := ok__law_left_out (P := P) (w := w) (base := base) (k := 6) T N.F__law_left_out N.g__law_left_out coe (j_one T N (by omega))
  have cop := ok__law_is_open (P := P) (w := w) (base := base) (k := 6) T N.F__law_is_open N.g__law_is_open
  have cww := ok__law_wrong_word (P := P) (w := w) (base := base) (k := 6) T N.F__law_wrong_word N.g__law_wrong_word (j_one T N (by omega))
  have csp := ok__law_spoiled (P := P) (w := w) (base := base) (k := 8) T N.F__law_spoiled N.g__law_spoiled (j_draw T N (by omega)) clo (j_one T N (by omega)) cop cww
  have cde := ok__law_deep (P := P) (w := w) (base := base) (k := 6) T N.F__law_deep N.g__law_deep
  exact ok_law (k := 120) T F (cat.mono (by omega)) ((ok__law_bag (k := 0) T N.F__law_bag N.g__law_bag).mono (by omega)) ((ok__law_start (k := 6) T N.F__law_start N.g__law_start (j_draw T N (by omega)) cw cl).mono (by omega)) (j_draw T N (by omega)) ((j_lbody T N 7).mono (by omega)) ((ok__law_tower (k := 4) T N.F__law_tower N.g__law_tower (j_draw T N (by omega)) (j_one T N (by omega))).mono (by omega)) ((j_signs T N 9).mono (by omega)) (csp.mono (by omega)) ((ok__law_spread (k := 4) T N.F__law_spread N.g__law_spread (j_one T N (by omega))).mono (by omega)) (cde.mono (by omega))
end
end Ef

namespace Ef
open PySem PySem.Spec PyProof.Rows L2
theorem facts {P : Program} {w : World} {K : PySem.W.Frag} {h : Heap} {mg : Str → Option Value} (X : K.In h) (G : h.Ns mainGlobals mg) (c : SaysB fa fn bs K) : ∃ fd : FuncData, (∀ (s : Shared) (u : Value), BindsTo s fd ⟨[u], []⟩ [("_law_script", u)]) ∧ ∀ base : Heap, FnOk P w K mg base CX0 122 (He.ga K "law") fd ["_law_script"] (sp_law K) := by
  have T := tx X G c
  have N := fns X G c
  obtain ⟨fd, F⟩ := c.d.def_ 34 (d := dd_law) rfl
  have b := FunD.bindsA (ps := ["_law_script"]) F fun _ _ _ _ _ _ us hl => match us, hl with | [_], _ => rfl
  exact ⟨fd, fun s u => b s [u] rfl, fun base => join_law T N F⟩
end Ef
open PySem PySem.W PySem.Calls PyProof.Rows
set_option maxHeartbeats 0 in
theorem PySem.Challenge.cw_earlyfields_k03_bodies_refused_holds : PySem.Challenge.rw_earlyfields_k03_bodies_refused.Holds := by
  w_on; o_law
  refine HandSHeadRun.head_any (r := OpenLaw.row PySem.Challenge.rw_earlyfields_k03_bodies_refused) (q := view (OpenLaw.row PySem.Challenge.rw_earlyfields_k03_bodies_refused).prog [49]) (H := Ef.hk) (ob := Ef.ob) (M := 6000) (loose := Ef.loose) (d := HandSHeadRun.topDef (OpenLaw.row PySem.Challenge.rw_earlyfields_k03_bodies_refused).prog 49) (kwd := []) Ef.ob_eq
    (by kernel_rfl) (fun s => by kernel_rfl) Ef.runTop (by kernel_rfl) (by kernel_rfl) (by kernel_rfl) (by rfl) (by first | assumption | decide +kernel) (by decide +kernel) ⟨rfl, rfl, rfl, rfl, rfl, by decide +kernel⟩ ?hw ?hc
  case hw => w_witness2
  case hc =>
    refine Ef.walk_ends (l := PySem.Challenge.rw_earlyfields_k03_bodies_refused) (n := 63) (k := 122) (x := "_law_script") (CX := fun _ => L2.CX0) rfl (by decide) (by kernel_rfl) ⟨rfl, by decide, by decide⟩ ?F (fun _ _ _ _ _ z => z)
    intro w mg fa h Y G hmg0
    obtain ⟨K, KX, c⟩ := Y
    have e : (HandSHeadRun.topDef (OpenLaw.row PySem.Challenge.rw_earlyfields_k03_bodies_refused).prog 49).name = ("law" : PySem.Str) := by kernel_rfl
    have hmg : mg ("law" : PySem.Str) = some (.ref fa) := by
      rw [← e]
      exact hmg0
    have ea : fa = He.ga K "law" := by
      have z := hmg.symm.trans (He.glo_ok KX G (c.d.fact 28 (f := .glo "law") rfl))
      cases z
      rfl
    subst ea
    obtain ⟨fd, hb, hF⟩ := Ef.facts (P := (PySem.Challenge.rw_earlyfields_k03_bodies_refused).prog) (w := w) KX G c
    exact ⟨K, fd, Ef.sp_law K, KX, hb, fun H a ns hl hbits hO hS => ⟨a, ns, rfl, hS, hl, fun _ => rfl⟩, fun base _ _ => hF base⟩

