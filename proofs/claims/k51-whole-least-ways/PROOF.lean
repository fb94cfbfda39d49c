import PyProof.Rows.All
import Wide.All
import OpenK.AllK
import Wide.FinOn
import KE.KStateDown
import Lean
import HandS.Base
import HandS.Call
import HandS.List
import HandS.Comp
import HandS.Ends
import HandS.Dict
import HandS.Iter
import HandS.Text
import HandS.More
import HandS.Words
import HandS.WordsList
import HandS.WordsDict
import HandS.WordsExc
import HandS.Defaults
import HandS.MakeKw
import HandS.Evl
import HandS.Flow
import HandS.Style
import HandS.IsInst
import HandS.Star
import HandS.Slots
import HandS.SlotsOwn
import HandS.Property
import HandS.ListItems
import HandS.SetKeys
import HandS.Wide
import HandS.WideBits
import HandS.Conv
import HandS.TupAny
import HandS.Lambda
import HandS.EndTab
import HandS.Head0
import HandS.Head1
import HandS.Head2
import HandS.HeadEnd
import HandS.HeadHook1
import HandS.HeadHook2
import HandS.HeadHook3
import HandS.HeadHook4
import HandS.HeadWalk
import KE.KDictDisplayH
import PyProof.EqKinds
import HandS.TupLen
import HandS.SetBool
import HandS.Small
import KE.KMinKey
import HandS.TupLe
import HandS.SortKw
import HandS.MakeKwOnly
import PyProof.DictUpdate
import PySem.Challenge.RW_pagewright_k51_whole_least_ways
set_option Elab.async false
set_option linter.all false
set_option maxRecDepth 100000
set_option maxHeartbeats 4000000
namespace K51
open PySem PySem.Spec PyProof.Rows L2 Evl
/-! ### the text by places -/
def top (i : Nat) : Stmt := PySem.Challenge.pw_pagewright_k51_whole_least_ways.main.body.getD i (.Pass ⟨0, 0, 0, 0⟩)
/-! ### a def that can be called -/
/-- the def that the module's name x stands for keeps the promise sp, at most k levels deep; all its parameters are given by place -/
structure Cal (P : Program) (w : World) (K : PySem.W.Frag) (mg : Str → Option Value) (base : Heap) (x : Str) (ps : List Str) (k : Nat) (sp : Sp) : Prop where
  ex : ∃ f fd, FnOk P w K mg base CX0 k f fd ps sp ∧ mg x = some (.ref f) ∧ PySem.W.keepIn K (.ref f) = true ∧ Binds K fd ps []
section
variable {X : Cx} {x : Str} {e : Expr} {es : List Expr} {pos p : Pos} {t : TA} {ps : List Str} {k : Nat} {sp : Sp}
theorem pe_cal (C : Cal X.prog X.w X.K X.mg X.base x ps k sp) (hr : Room k X.A) (ha : PA X (e :: es) t) (hg : Gl X x := by rfl) (hdb : (x == ("__debug__" : Str)) = false := by decide)
    (he : starEach (e :: es) X.env = (false, eval e X.env) :: starEach es X.env := by rfl) (hpl : (backTo pos (starEach es X.env)).any (·.1) = false := by rfl) :
    PE X (.Call (.Name x p) (e :: es) [] pos) (tCall sp [] E0 t) := by
  obtain ⟨f, fd, F, hm, hk, hb⟩ := C.ex
  exact pe_call F hr hg hm hk hb .nil pass0 ha hdb he hpl
end
/-! ### promises -/
/-- a value, all that was tracked as it was -/
def spV (f : List V → Hp → V → Prop) : Sp := fun vs H Q _ => ∃ v, f vs H v ∧ ∀ H2, Ex H H2 → Q v H2
/-- a value of which R tells -/
def spR (f : List V → Hp → (V → Hp → Prop) → Prop) : Sp := fun vs H Q _ => ∃ R, f vs H R ∧ ∀ v H2, Ex H H2 → R v H2 → Q v H2
theorem spV_of {f : List V → Hp → V → Prop} {vs : List V} {H : Hp} {v : V} (h : ∀ H1, Ex H H1 → f vs H1 v) : SpV (spV f) vs H v := fun H1 e _ q _ => ⟨v, h H1 e, q⟩
/-- what is evaluated, told by a word -/
def EvR (te : TE) (σ : L2.St) (H : Hp) (R : V → Hp → Prop) : Prop := ∀ H1, Ex H H1 → ∀ Q : VK, (∀ v H2, Ex H1 H2 → R v H2 → Q v H2) → te σ H1 Q
section
variable {σ : L2.St} {H : Hp} {te : TE} {ta : TA} {v : V} {vs : List V} {D : Ends} {tz : TS}
theorem ev_calV {f : List V → Hp → V → Prop} (h : EvA ta σ H vs) (hf : ∀ H1, Ex H H1 → f vs H1 v) : Ev (tCall (spV f) [] E0 ta) σ H v :=
  ev_call h (by rw [List.append_nil]; exact spV_of hf)
theorem ev_calR {f : List V → Hp → (V → Hp → Prop) → Prop} {R : V → Hp → Prop} (h : EvA ta σ H vs) (hf : ∀ H1, Ex H H1 → f vs H1 R) : EvR (tCall (spR f) [] E0 ta) σ H R := fun H1 e Q q =>
  h H1 e _ fun H2 e2 => ⟨R, by rw [List.append_nil]; exact hf H2 (e.trans e2), fun v H3 e3 r => q v H3 (e2.trans e3) r⟩
theorem q_asgR {i : Nat} {R : V → Hp → Prop} (h : EvR te σ H R) (k : ∀ v H1, Ex H H1 → R v H1 → tz D (σ.set i (some v)) H1) : tSeq (tAsg te (gName i)) tz D σ H := h H (Ex.refl H) _ fun v H1 e r => k v H1 e r
theorem s_asgR {i : Nat} {R : V → Hp → Prop} (h : EvR te σ H R) (k : ∀ v H1, Ex H H1 → R v H1 → D.nx (σ.set i (some v)) H1) : tAsg te (gName i) D σ H := h H (Ex.refl H) _ fun v H1 e r => k v H1 e r
theorem s_retR {R : V → Hp → Prop} (h : EvR te σ H R) (k : ∀ v H1, Ex H H1 → R v H1 → D.rt v H1) : tRet te D σ H := h H (Ex.refl H) _ fun v H1 e r => k v H1 e r
end
end K51
namespace K51
open PySem PySem.Spec PyProof.Rows L2 Evl
/-- the module's name gx stands for the def of the text at st (its own name x, qualified qual), without defaults -/
def DefAt (K : PySem.W.Frag) (mg : Str → Option Value) (gx x qual : Str) (st : Stmt) : Prop := ∃ f fd, FunD K x qual (defArgs st) (defBody st) (defScope st) [] [] f fd ∧ mg gx = some (.ref f)
section
variable {P : Program} {w : World} {K : PySem.W.Frag} {mg : Str → Option Value} {base : Heap} {gx x qual : Str} {st : Stmt} {N ps : List Str} {k : Nat} {sp : Sp}
theorem cal_of (D : DefAt K mg gx x qual st) (S : FnScope N ps (defScope st))
    (hbind : ∀ (kV doc pm : Value) (an : Option Addr) (cdv ct : Value) (us : List Value), us.length = ps.length → bindArgs (PySem.W.fnOf x qual (defArgs st) (defBody st) (defScope st) .none kV doc pm an cdv ct) ⟨us, []⟩ = pure (ps.zip us))
    (len : ∀ vs H Q E, sp vs H Q E → vs.length = ps.length)
    (hbody : ∀ (f : Addr) (cdv : Value) (A : Around) (outer : List Env) (s : Shared) (H : Hp) (vs : List V) (Q : VK) (E : XK), Room k (A.deeper (envOfC qual (defScope st) s.heap.objs.size f cdv)) → sp vs H Q E →
      ∃ t, PSs (cxOf CX0 P w K mg base N qual (defScope st) f cdv A outer s H E).nox (defBody st) t ∧ t { nx := fun _ H' => Q .non H', rt := Q } (start N vs) H) : Cal P w K mg base gx ps (k + 1) sp := by
  obtain ⟨f, fd, F, hm⟩ := D
  refine ⟨f, fd, F.ok S len (fun cdv A outer s H vs Q E hr h => ?_), hm, F.kp, F.bindsN hbind⟩
  obtain ⟨t, a, b⟩ := hbody f cdv A outer s H vs Q E hr h
  exact ⟨t, PSs.nox a, b⟩
end
/-- the module's name x is the int i -/
def Gi (mg : Str → Option Value) (x : Str) (i : Int) : Prop := ∃ t, mg x = some (.int i t)
theorem pe_gi {X : Cx} {x : Str} {i : Int} {pos : Pos} (h : Gi X.mg x i) (hg : Gl X x := by rfl) (hd : (x == ("__debug__" : Str)) = false := by decide) : PE X (.Name x pos) (tC (.int i)) := by
  obtain ⟨t, h⟩ := h
  exact pe_glob hg h ⟨_, rfl⟩ hd
theorem pe_gr {X : Cx} {x : Str} {a : Addr} {pos : Pos} (h : X.mg x = some (.ref a)) (hg : Gl X x := by rfl) (hd : (x == ("__debug__" : Str)) = false := by decide) : PE X (.Name x pos) (tC (.ref a)) := pe_glob hg h rfl hd
end K51
set_option Elab.async false
set_option linter.all false
set_option maxRecDepth 100000
set_option maxHeartbeats 4000000
/-! The head's Hook, with the getters of a class. -/
namespace K51H
open PySem PySem.Spec PyProof.Rows L2 He
/-- the getter behind the property f of the class x -/
def getAt (K : PySem.W.Frag) (p : Str × Str) : Addr := match PySem.W.recIn K (ma K (ga K p.1) p.2) "property" with
  | some (.ref g :: _) => g
  | _ => 0
def fnA (K : PySem.W.Frag) (a : Addr) : FnW := match K.lookup a with
  | some ⟨_, _, .func fd, _⟩ => some (fd.name, fd.qualname, fd.params, fd.body, fd.scope, fd.globals, fd.closure, fd.builtins)
  | _ => none
structure GetD where
  at_ : Str × Str
  name : Str
  qual : Str
  params : Arguments
  body : List Stmt
  scope : Scope
def GetD.val (d : GetD) : FnW := some (d.name, d.qual, d.params, .stmts d.body, d.scope, mainGlobals, [], builtinsNs)
def isGet (K : PySem.W.Frag) (p : Str × Str) : Bool := match PySem.W.recIn K (ma K (ga K p.1) p.2) "property" with
  | some (.ref _ :: _) => true
  | _ => false
def GetD.ok (K : PySem.W.Frag) (d : GetD) : Bool := isGet K d.at_ && (PySem.W.keepIn K (.ref (getAt K d.at_)) && (match K.lookup (getAt K d.at_) with
  | some ⟨_, _, .func fd, _⟩ => PySem.W.codeIn K fd.code d.qual && (dflB K fd.defaults [] && kwdB K fd.kwdefaults [])
  | _ => false))
theorem GetD.funD {K : PySem.W.Frag} {d : GetD} (e : fnA K (getAt K d.at_) = d.val) (c : d.ok K = true) : (∃ fd, FunD K d.name d.qual d.params d.body d.scope [] [] (getAt K d.at_) fd) ∧ ∃ rest, PySem.W.recIn K (ma K (ga K d.at_.1) d.at_.2) "property" = some (.ref (getAt K d.at_) :: rest) := by
  obtain ⟨c0, c1⟩ := ba c
  obtain ⟨kp, c2⟩ := ba c1
  refine ⟨?_, ?_⟩
  · generalize getAt K d.at_ = a at e kp c2
    unfold fnA at e
    cases q : K.lookup a with
    | none =>
      rw [q] at c2
      cases c2
    | some o =>
      obtain ⟨oc, od, dt, osl⟩ := o
      rw [q] at c2 e
      cases dt with
      | func fd =>
        obtain ⟨n1, n2, n3, n4, n5, n6, n7, n8, n9, n10, n11, n12, n13, n14, n15⟩ := fd
        have e2 : (some (n1, n2, n3, n4, n5, n6, n7, n15) : FnW) = some (d.name, d.qual, d.params, .stmts d.body, d.scope, mainGlobals, [], builtinsNs) := e
        simp only [Option.some.injEq, Prod.mk.injEq] at e2
        obtain ⟨h1, h2, h3, h4, h5, h6, h7, h8⟩ := e2
        subst h1 h2 h3 h4 h5 h6 h7 h8
        have c3 : (PySem.W.codeIn K n13 d.qual && (dflB K n8 [] && kwdB K n9 [])) = true := c2
        obtain ⟨k1, k2⟩ := ba c3
        obtain ⟨k3, k4⟩ := ba k2
        exact ⟨_, ⟨oc, od, n8, n9, n10, n11, n12, n13, n14, osl, rfl, q, k1, dflB_ok k3, kwdB_ok k4⟩, kp⟩
      | _ => cases c2
  · unfold isGet at c0
    unfold getAt
    cases q : PySem.W.recIn K (ma K (ga K d.at_.1) d.at_.2) "property" with
    | none =>
      rw [q] at c0
      cases c0
    | some l =>
      rw [q] at c0
      cases l with
      | nil => cases c0
      | cons v rest =>
        cases v with
        | ref g => exact ⟨rest, rfl⟩
        | _ => cases c0
/-! ### the objects that are looked at -/
def refsA (g : Addr → Option Obj) (as : List Addr) : List Addr := as.flatMap fun a => match g a with
  | some o => refsD o
  | none => []
def nsA (g : Addr → Option Obj) (as : List Addr) : List Addr := as.flatMap fun a => match g a with
  | some o => (match o.data with
    | .cls cd => [cd.ns]
    | _ => [])
  | none => []
/-- the module's dict, what its names stand for, what these name; the classes' dicts, what they name, two steps on -/
def asQ (g : Addr → Option Obj) (cs : List Str) : List Addr :=
  let a1 := refsA g [mainGlobals]
  let a3 := refsA g (nsA g (cs.map (ga (frT g [mainGlobals]))))
  let a4 := refsA g a3
  mainGlobals :: (a1 ++ (refsA g a1 ++ (a3 ++ (a4 ++ refsA g a4))))
abbrev AlP : Type := (AlT × Bool) × List FnW
section
variable (fa : List Fa) (fn : List DefD) (tf : List Defn) (ex : PySem.W.Frag → Bool) (gs : List GetD)
def exP (K : PySem.W.Frag) : Bool := ex K && gs.all fun d => d.ok K
def obsK (g : Addr → Option Obj) (K : PySem.W.Frag) : AlP := ((obsT fa fn [] K, exP ex gs K && tabsB g tf K), gs.map fun d => fnA K (getAt K d.at_))
def obsP (cs : List Str) (g : Addr → Option Obj) : AlP := obsK fa fn tf ex gs g (frT g (asQ g cs))
def valP (w : World) : AlP := ((valT fn [] w, true), gs.map GetD.val)
structure SaysP (w : World) (h : Heap) (K : PySem.W.Frag) : Prop where
  x : SaysX fa fn [] tf (exP ex gs) w h K
  g : (gs.map fun d => fnA K (getAt K d.at_)) = gs.map GetD.val
theorem tab_of {h : Heap} {as : List Addr} {p : Defn} (e : (PySem.W.codeHdIn (frT h.get? as) (cT (frT h.get? as) p).1 (cT (frT h.get? as) p).2 && (match h.get? (cT (frT h.get? as) p).2 with
    | some o => emptyTab o
    | none => false)) = true) : PySem.W.codeHdIn (frT h.get? as) (cT (frT h.get? as) p).1 (cT (frT h.get? as) p).2 = true ∧ (frT h.get? as).lookup (cT (frT h.get? as) p).2 = none ∧ h.get? (cT (frT h.get? as) p).2 = some { cls := .none, data := .fields #[] } := by
  obtain ⟨u1, u2⟩ := ba e
  refine ⟨u1, ?_⟩
  generalize (cT (frT h.get? as) p).2 = t at u2
  cases ht : h.get? t with
  | none =>
    rw [ht] at u2
    cases u2
  | some o =>
    rw [ht] at u2
    exact ⟨frT_none ht u2, by rw [emptyTab_eq u2]⟩
theorem saysP_of {cs : List Str} {w : World} {h : Heap} (e : obsP fa fn tf ex gs cs h.get? = valP fn gs w) : SaysP fa fn tf ex gs w h (frT h.get? (asQ h.get? cs)) := by
  have v1 : obsT fa fn [] (frT h.get? (asQ h.get? cs)) = valT fn [] w := congrArg (fun z : AlP => z.1.1) e
  have v2 : (exP ex gs (frT h.get? (asQ h.get? cs)) && tabsB h.get? tf (frT h.get? (asQ h.get? cs))) = true := congrArg (fun z : AlP => z.1.2) e
  have v3 := congrArg (fun z : AlP => z.2) e
  obtain ⟨b1, b2⟩ := ba v2
  have key := fun p hp => tab_of (List.all_eq_true.mp b2 p hp)
  exact ⟨⟨v1, b1, fun p hp => (key p hp).1, fun p hp => (key p hp).2.1, fun p hp => (key p hp).2.2⟩, v3⟩
def hookP (cs : List Str) : PySem.W.Hook where
  α := AlP
  obs := fun s => obsP fa fn tf ex gs cs s.heap.get?
  val := fun w => valP fn gs w
  says := fun w h => ∃ K : PySem.W.Frag, K.In h ∧ SaysP fa fn tf ex gs w h K
  of := fun w h e => ⟨_, frT_in, saysP_of fa fn tf ex gs e⟩
  keeps := fun _ _ _ ⟨K, hK, c⟩ k => ⟨K, PySem.W.Frag.In.keeps hK k, ⟨⟨c.x.t, c.x.more, c.x.hd, c.x.out, fun p hp => k _ _ (c.x.empty p hp)⟩, c.g⟩⟩
end
section
variable {cs : List Str} {fa : List Fa} {fn : List DefD} {tf : List Defn} {ex : PySem.W.Frag → Bool} {gs : List GetD} {w : World} {h : Heap} {K : PySem.W.Frag}
theorem obsP_eq {g : Addr → Option Obj} {s : Shared} (h : ∀ a, g a = s.heap.get? a) : obsP fa fn tf ex gs cs g = (hookP fa fn tf ex gs cs).obs s := by
  have e : g = s.heap.get? := funext h
  rw [e] <;> rfl
theorem SaysP.ex_ (c : SaysP fa fn tf ex gs w h K) : ex K = true := (ba c.x.more).1
theorem SaysP.get_ (c : SaysP fa fn tf ex gs w h K) (i : Nat) {d : GetD} (hd : gs[i]? = some d := by rfl) : (∃ fd, FunD K d.name d.qual d.params d.body d.scope [] [] (getAt K d.at_) fd) ∧ ∃ rest, PySem.W.recIn K (ma K (ga K d.at_.1) d.at_.2) "property" = some (.ref (getAt K d.at_) :: rest) := by
  have c2 := (ba c.x.more).2
  have e2 : (gs.map fun d => fnA K (getAt K d.at_))[i]? = (gs.map GetD.val)[i]? := by rw [c.g]
  rw [List.getElem?_map, List.getElem?_map, hd] at e2
  exact GetD.funD (Option.some.inj e2) (List.all_eq_true.mp c2 d (List.mem_of_getElem? hd))
end
end K51H
set_option Elab.async false
set_option linter.all false
set_option maxRecDepth 100000
set_option maxHeartbeats 0
namespace K51H
open PySem PySem.Spec PyProof.Rows L2 K51

def fa0 : List He.Fa := [.free "abs", .free "len", .free "all", .free "any", .free "sum", .free "min", .free "max", .free "range", .free "isinstance", .free "int", .free "bool", .free "str", .free "tuple", .free "list", .free "dict", .free "enumerate", .int "BOUND" (10 ^ 60), .int "MAX_LENGTH" 1073741823, .int "MAX_ORDER" 3, .int "MOST_ITEMS" 1000, .int "MOST_NODES" 20000, .int "MOST_WIDTHS" 40, .int "CLOSED" 10000, .int "OPENED" (-10000), .int "WORST" 10000, .int "TIGHT" 12, .int "LOOSE" 99, .int "NEVER" 10000, .int "FORCED" (-10000), .int "HIGHEST" 1000000, .int "LEAST_LOOSENESS" (-100), .int "MOST_LOOSENESS" 100, .glo "Glue", .glo "Rules", .glo "LineFacts", .glo "FIRST_NODE", .glo "is_whole_lengths", .glo "is_length", .glo "is_amount", .glo "is_order"]
def fa1 : List He.Fa := [.glo "is_whole_measures", .glo "is_within", .glo "is_measured_item", .glo "is_forced", .glo "stays", .glo "are_measured", .glo "are_widths", .glo "is_place", .glo "all_places", .glo "start_behind", .glo "places_behind", .glo "badness_by", .glo "natural_of", .glo "penalty_at", .glo "edge_widths", .glo "class_of", .glo "step_to", .glo "steps_from", .glo "added_cost", .glo "all_nodes", .glo "way_to", .glo "told_nodes", .glo "require_measured", .glo "require_wrong", .glo "least_breaks", .glo "_law_dice", .glo "_law_roll", .glo "_law_pick", .glo "_law_units_wide", .glo "_law_measured", .glo "_law_row_made", .glo "_law_rules_drawn", .glo "_law_rules_made", .glo "_law_break_places", .glo "_law_line_start", .glo "_law_places_behind", .glo "_law_line_badness", .glo "_law_line_told", .glo "_law_line_demerits", .glo "_law_step_told"]
def fa2 : List He.Fa := [.glo "_law_sum_of", .glo "_law_all_ways", .glo "_law_least_told", .glo "_law_way_cost", .glo "_law_told_right", .glo "_law_right", .glo "law", .cls "Rules", .noat "Rules" "own_widths", .noat "Rules" "own_tolerance", .noat "Rules" "own_line", .noat "Rules" "own_hyphen", .noat "Rules" "own_unlike", .noat "Rules" "own_double", .noat "Rules" "own_last", .noat "Rules" "own_room", .noat "Rules" "own_looseness", .cls "LineFacts", .noat "LineFacts" "own_rules", .noat "LineFacts" "own_start", .noat "LineFacts" "own_is_last", .noat "LineFacts" "own_is_part", .noat "LineFacts" "own_penalty", .noat "LineFacts" "own_natural", .noat "LineFacts" "own_width", .noat "LineFacts" "own_rest", .noat "LineFacts" "own_stretches", .noat "LineFacts" "own_shrink", .noat "LineFacts" "own_too_full", .noat "LineFacts" "own_badness", .noat "LineFacts" "own_tightness", .noat "LineFacts" "own_is_wrong", .meth "LineFacts" "badness_here", .meth "LineFacts" "demerits_behind", .mkr "LineFacts", .mkr "Glue", .mkr "Rules"]
def fa : List He.Fa := fa0 ++ fa1 ++ fa2
def d0 : He.DefD := ⟨("is_whole_lengths", none), "is_whole", "is_whole", defArgs (top 13), defBody (top 13), defScope (top 13), [], []⟩
def d1 : He.DefD := ⟨("is_length", none), "is_length", "is_length", defArgs (top 15), defBody (top 15), defScope (top 15), [], []⟩
def d2 : He.DefD := ⟨("is_amount", none), "is_amount", "is_amount", defArgs (top 24), defBody (top 24), defScope (top 24), [], []⟩
def d3 : He.DefD := ⟨("is_order", none), "is_order", "is_order", defArgs (top 25), defBody (top 25), defScope (top 25), [], []⟩
def d4 : He.DefD := ⟨("is_whole_measures", none), "is_whole", "is_whole", defArgs (top 40), defBody (top 40), defScope (top 40), [], []⟩
def d5 : He.DefD := ⟨("is_within", none), "is_within", "is_within", defArgs (top 42), defBody (top 42), defScope (top 42), [], []⟩
def d6 : He.DefD := ⟨("is_measured_item", none), "is_measured_item", "is_measured_item", defArgs (top 43), defBody (top 43), defScope (top 43), [], []⟩
def d7 : He.DefD := ⟨("is_forced", none), "is_forced", "is_forced", defArgs (top 44), defBody (top 44), defScope (top 44), [], []⟩
def d8 : He.DefD := ⟨("stays", none), "stays", "stays", defArgs (top 45), defBody (top 45), defScope (top 45), [], []⟩
def d9 : He.DefD := ⟨("are_measured", none), "are_measured", "are_measured", defArgs (top 46), defBody (top 46), defScope (top 46), [], []⟩
def d10 : He.DefD := ⟨("are_widths", none), "are_widths", "are_widths", defArgs (top 47), defBody (top 47), defScope (top 47), [], []⟩
def d11 : He.DefD := ⟨("is_place", none), "is_place", "is_place", defArgs (top 48), defBody (top 48), defScope (top 48), [], []⟩
def d12 : He.DefD := ⟨("all_places", none), "all_places", "all_places", defArgs (top 49), defBody (top 49), defScope (top 49), [], []⟩
def d13 : He.DefD := ⟨("start_behind", none), "start_behind", "start_behind", defArgs (top 50), defBody (top 50), defScope (top 50), [], []⟩
def d14 : He.DefD := ⟨("places_behind", none), "places_behind", "places_behind", defArgs (top 51), defBody (top 51), defScope (top 51), [], []⟩
def d15 : He.DefD := ⟨("badness_by", none), "badness_by", "badness_by", defArgs (top 52), defBody (top 52), defScope (top 52), [], []⟩
def d16 : He.DefD := ⟨("natural_of", none), "natural_of", "natural_of", defArgs (top 53), defBody (top 53), defScope (top 53), [], []⟩
def d17 : He.DefD := ⟨("penalty_at", none), "penalty_at", "penalty_at", defArgs (top 54), defBody (top 54), defScope (top 54), [], []⟩
def d18 : He.DefD := ⟨("edge_widths", none), "edge_widths", "edge_widths", defArgs (top 55), defBody (top 55), defScope (top 55), [], []⟩
def d19 : He.DefD := ⟨("class_of", none), "class_of", "class_of", defArgs (top 56), defBody (top 56), defScope (top 56), [], []⟩
def d20 : He.DefD := ⟨("step_to", none), "step_to", "step_to", defArgs (top 58), defBody (top 58), defScope (top 58), [], []⟩
def d21 : He.DefD := ⟨("steps_from", none), "steps_from", "steps_from", defArgs (top 59), defBody (top 59), defScope (top 59), [], []⟩
def d22 : He.DefD := ⟨("added_cost", none), "added_cost", "added_cost", defArgs (top 60), defBody (top 60), defScope (top 60), [], []⟩
def d23 : He.DefD := ⟨("all_nodes", none), "all_nodes", "all_nodes", defArgs (top 61), defBody (top 61), defScope (top 61), [], []⟩
def d24 : He.DefD := ⟨("way_to", none), "way_to", "way_to", defArgs (top 62), defBody (top 62), defScope (top 62), [], []⟩
def d25 : He.DefD := ⟨("told_nodes", none), "told_nodes", "told_nodes", defArgs (top 63), defBody (top 63), defScope (top 63), [], []⟩
def d26 : He.DefD := ⟨("require_measured", none), "require_measured", "require_measured", defArgs (top 71), defBody (top 71), defScope (top 71), [], []⟩
def d27 : He.DefD := ⟨("require_wrong", none), "require_wrong", "require_wrong", defArgs (top 72), defBody (top 72), defScope (top 72), [], []⟩
def d28 : He.DefD := ⟨("least_breaks", none), "least_breaks", "least_breaks", defArgs (top 73), defBody (top 73), defScope (top 73), [], [("wrong", .bl false)]⟩
def d29 : He.DefD := ⟨("_law_dice", none), "_law_dice", "_law_dice", defArgs (top 75), defBody (top 75), defScope (top 75), [], []⟩
def d30 : He.DefD := ⟨("_law_roll", none), "_law_roll", "_law_roll", defArgs (top 76), defBody (top 76), defScope (top 76), [], []⟩
def d31 : He.DefD := ⟨("_law_pick", none), "_law_pick", "_law_pick", defArgs (top 77), defBody (top 77), defScope (top 77), [], []⟩
def d32 : He.DefD := ⟨("_law_units_wide", none), "_law_units_wide", "_law_units_wide", defArgs (top 78), defBody (top 78), defScope (top 78), [], []⟩
def d33 : He.DefD := ⟨("_law_measured", none), "_law_measured", "_law_measured", defArgs (top 79), defBody (top 79), defScope (top 79), [], []⟩
def d34 : He.DefD := ⟨("_law_row_made", none), "_law_row_made", "_law_row_made", defArgs (top 80), defBody (top 80), defScope (top 80), [], []⟩
def d35 : He.DefD := ⟨("_law_rules_drawn", none), "_law_rules_drawn", "_law_rules_drawn", defArgs (top 81), defBody (top 81), defScope (top 81), [], []⟩
def d36 : He.DefD := ⟨("_law_rules_made", none), "_law_rules_made", "_law_rules_made", defArgs (top 82), defBody (top 82), defScope (top 82), [], []⟩
def d37 : He.DefD := ⟨("_law_break_places", none), "_law_break_places", "_law_break_places", defArgs (top 83), defBody (top 83), defScope (top 83), [], []⟩
def d38 : He.DefD := ⟨("_law_line_start", none), "_law_line_start", "_law_line_start", defArgs (top 84), defBody (top 84), defScope (top 84), [], []⟩
def d39 : He.DefD := ⟨("_law_places_behind", none), "_law_places_behind", "_law_places_behind", defArgs (top 85), defBody (top 85), defScope (top 85), [], []⟩
def d40 : He.DefD := ⟨("_law_line_badness", none), "_law_line_badness", "_law_line_badness", defArgs (top 86), defBody (top 86), defScope (top 86), [], []⟩
def d41 : He.DefD := ⟨("_law_line_told", none), "_law_line_told", "_law_line_told", defArgs (top 87), defBody (top 87), defScope (top 87), [], []⟩
def d42 : He.DefD := ⟨("_law_line_demerits", none), "_law_line_demerits", "_law_line_demerits", defArgs (top 88), defBody (top 88), defScope (top 88), [], []⟩
def d43 : He.DefD := ⟨("_law_step_told", none), "_law_step_told", "_law_step_told", defArgs (top 89), defBody (top 89), defScope (top 89), [], []⟩
def d44 : He.DefD := ⟨("_law_sum_of", none), "_law_sum_of", "_law_sum_of", defArgs (top 90), defBody (top 90), defScope (top 90), [], []⟩
def d45 : He.DefD := ⟨("_law_all_ways", none), "_law_all_ways", "_law_all_ways", defArgs (top 91), defBody (top 91), defScope (top 91), [], []⟩
def d46 : He.DefD := ⟨("_law_least_told", none), "_law_least_told", "_law_least_told", defArgs (top 92), defBody (top 92), defScope (top 92), [], []⟩
def d47 : He.DefD := ⟨("_law_way_cost", none), "_law_way_cost", "_law_way_cost", defArgs (top 93), defBody (top 93), defScope (top 93), [], []⟩
def d48 : He.DefD := ⟨("_law_told_right", none), "_law_told_right", "_law_told_right", defArgs (top 94), defBody (top 94), defScope (top 94), [], []⟩
def d49 : He.DefD := ⟨("_law_right", none), "_law_right", "_law_right", defArgs (top 95), defBody (top 95), defScope (top 95), [], []⟩
def d50 : He.DefD := ⟨("law", none), "law", "law", defArgs (top 96), defBody (top 96), defScope (top 96), [], []⟩
def d51 : He.DefD := ⟨("LineFacts", some "__init__"), "__init__", "LineFacts.__init__", defArgs (inClass (top 57) 0), defBody (inClass (top 57) 0), defScope (inClass (top 57) 0), [], []⟩
def d52 : He.DefD := ⟨("LineFacts", some "badness_here"), "badness_here", "LineFacts.badness_here", defArgs (inClass (top 57) 1), defBody (inClass (top 57) 1), defScope (inClass (top 57) 1), [], []⟩
def d53 : He.DefD := ⟨("LineFacts", some "demerits_behind"), "demerits_behind", "LineFacts.demerits_behind", defArgs (inClass (top 57) 2), defBody (inClass (top 57) 2), defScope (inClass (top 57) 2), [], []⟩
def d54 : He.DefD := ⟨("Glue", some "__init__"), "__init__", "Glue.__init__", defArgs (inClass (top 26) 1), defBody (inClass (top 26) 1), defScope (inClass (top 26) 1), [], [("stretch", .int 0), ("stretch_order", .int 0), ("shrink", .int 0), ("shrink_order", .int 0)]⟩
def d55 : He.DefD := ⟨("Rules", some "__init__"), "__init__", "Rules.__init__", defArgs (inClass (top 70) 1), defBody (inClass (top 70) 1), defScope (inClass (top 70) 1), [], [("tolerance", .int 200), ("line", .int 10), ("hyphen", .int 50), ("unlike", .int 10000), ("double", .int 10000), ("last", .int 5000), ("room", .int 0), ("looseness", .int 0)]⟩
def fn0 : List He.DefD := [d0, d1, d2, d3, d4, d5, d6, d7, d8, d9, d10, d11, d12, d13, d14, d15, d16, d17, d18, d19, d20, d21, d22, d23, d24, d25, d26, d27, d28, d29]
def fn1 : List He.DefD := [d30, d31, d32, d33, d34, d35, d36, d37, d38, d39, d40, d41, d42, d43, d44, d45, d46, d47, d48, d49, d50, d51, d52, d53, d54, d55]
def fn : List He.DefD := fn0 ++ fn1
def tf : List He.Defn := [("told_nodes", none)]
def g0 : GetD := ⟨("Glue", "natural"), "natural", "Glue.natural", defArgs (inClass (top 26) 3), defBody (inClass (top 26) 3), defScope (inClass (top 26) 3)⟩
def g1 : GetD := ⟨("Glue", "shrink"), "shrink", "Glue.shrink", defArgs (inClass (top 26) 6), defBody (inClass (top 26) 6), defScope (inClass (top 26) 6)⟩
def g2 : GetD := ⟨("Glue", "shrink_order"), "shrink_order", "Glue.shrink_order", defArgs (inClass (top 26) 7), defBody (inClass (top 26) 7), defScope (inClass (top 26) 7)⟩
def g3 : GetD := ⟨("Glue", "stretch"), "stretch", "Glue.stretch", defArgs (inClass (top 26) 4), defBody (inClass (top 26) 4), defScope (inClass (top 26) 4)⟩
def g4 : GetD := ⟨("Glue", "stretch_order"), "stretch_order", "Glue.stretch_order", defArgs (inClass (top 26) 5), defBody (inClass (top 26) 5), defScope (inClass (top 26) 5)⟩
def gs : List GetD := [g0, g1, g2, g3, g4]
def clsB (K : PySem.W.Frag) (C : Addr) : Bool := He.eqO (PySem.W.findIn K (.ref C) "__class__") (some (some (.builtin "object.__class__"))) && (He.eqO (PySem.W.specialIn K (.builtin "object.__class__") "__get__") (some (some (.builtin "getset_descriptor.__get__"))) && (decide (PySem.W.takesIn K (.builtin "object.__class__") = some true) && decide (PySem.W.mroIn K C (.type "object") = some true)))
def slB (K : PySem.W.Frag) (C : Addr) (f : Str) (i : Nat) : Bool := He.eqO (PySem.W.findIn K (.ref C) f) (some (some (.ref (He.ma K C f)))) && (He.eqO (PySem.W.specialIn K (.ref (He.ma K C f)) "__get__") (some (some (.builtin "member_descriptor.__get__"))) && (decide (PySem.W.takesIn K (.ref (He.ma K C f)) = some true) && (decide (PySem.W.typeIn K (.ref (He.ma K C f)) = some (.type "member_descriptor")) && decide (PySem.W.slotIn K (He.ma K C f) C = some i))))
def prB (K : PySem.W.Frag) (C : Addr) (f : Str) : Bool := He.eqO (PySem.W.findIn K (.ref C) f) (some (some (.ref (He.ma K C f)))) && (He.eqO (PySem.W.specialIn K (.ref (He.ma K C f)) "__get__") (some (some (.builtin "property.__get__"))) && decide (PySem.W.takesIn K (.ref (He.ma K C f)) = some true))
def scB (K : PySem.W.Frag) (C : Addr) : Bool := PySem.W.plainGet K C Str.empty && (PySem.W.isClsIn K C && (PySem.W.plainOver K C && He.eqO (PySem.W.findIn K (.ref C) "__setattr__") (some (some (.builtin "object.__setattr__")))))
def ex (K : PySem.W.Frag) : Bool := He.tupB K "FIRST_NODE" [.int (-1), .int 0, .int 1, .bl false] && (clsB K (He.ga K "Rules") && (clsB K (He.ga K "Glue") && (scB K (He.ga K "Glue") && (slB K (He.ga K "Glue") "own_natural" 0 && (slB K (He.ga K "Glue") "own_shrink" 1 && (slB K (He.ga K "Glue") "own_shrink_order" 2 && (slB K (He.ga K "Glue") "own_stretch" 3 && (slB K (He.ga K "Glue") "own_stretch_order" 4 && (prB K (He.ga K "Glue") "natural" && (prB K (He.ga K "Glue") "shrink" && (prB K (He.ga K "Glue") "shrink_order" && (prB K (He.ga K "Glue") "stretch" && (prB K (He.ga K "Glue") "stretch_order")))))))))))))
def names0 : List PySem.Str := ["_wall", "__name__", "PressError", "InvalidLength", "InvalidGlue", "InvalidRow", "InvalidRules", "InvalidOperation", "TooMany", "POINT", "MAX_LENGTH", "BOUND", "is_whole", "is_whole_lengths", "is_length", "tens", "rounded", "require_length", "number_text", "text_of_length", "ORDERS", "MAX_ORDER", "is_amount", "is_order", "Glue", "amounts_added", "glue_parts", "glue_text", "MOST_ITEMS", "MOST_NODES"]
def names1 : List PySem.Str := ["MOST_WIDTHS", "CLOSED", "OPENED", "WORST", "TIGHT", "LOOSE", "FIRST_NODE", "is_whole_measures", "is_within", "is_measured_item", "is_forced", "stays", "are_measured", "are_widths", "is_place", "all_places", "start_behind", "places_behind", "badness_by", "natural_of", "penalty_at", "edge_widths", "class_of", "LineFacts", "step_to", "steps_from", "added_cost", "all_nodes", "way_to", "told_nodes"]
def names2 : List PySem.Str := ["NEVER", "FORCED", "HIGHEST", "LEAST_LOOSENESS", "MOST_LOOSENESS", "Rules", "require_measured", "require_wrong", "least_breaks", "_law_dice", "_law_roll", "_law_pick", "_law_units_wide", "_law_measured", "_law_row_made", "_law_rules_drawn", "_law_rules_made", "_law_break_places", "_law_line_start", "_law_places_behind", "_law_line_badness", "_law_line_told", "_law_line_demerits", "_law_step_told", "_law_sum_of", "_law_all_ways", "_law_least_told", "_law_way_cost", "_law_told_right", "_law_right"]
def names : List PySem.Str := names0 ++ names1 ++ names2
abbrev R : PySem.W.OpenRow := PySem.W.OpenLaw.row PySem.Challenge.rw_pagewright_k51_whole_least_ways
def cs : List Str := ["Glue", "LineFacts", "Rules"]
abbrev hk : PySem.W.Hook := hookP fa fn tf ex gs cs
def ob (s : PySem.W.SharedT) : AlP := obsP fa fn tf ex gs cs (HandSHeadRun.getT s)
theorem ob_eq (s : PySem.W.SharedT) : ob s = hk.obs s.abs := obsP_eq (HandSHeadRun.getT_eq s)
theorem run (w : World) : HandSHeadRun.RunEq R (PySem.W.view R.prog [96]) hk ob 8000 names w := by
  intro os
  kernel_rfl
end K51H
set_option maxRecDepth 100000
set_option maxHeartbeats 4000000
set_option linter.all false
/-! The mathematics of the law: rows, rules, line facts, steps, all ways, all nodes; no program in sight. -/
namespace K51

/-! ### orders on lists of ints -/
def lexLt : List Int → List Int → Bool
  | [], [] => false
  | [], _ :: _ => true
  | _ :: _, [] => false
  | x :: xs, y :: ys => if x = y then lexLt xs ys else decide (x < y)
theorem lexLt_irr : ∀ a : List Int, lexLt a a = false
  | [] => rfl
  | x :: xs => by
    show (if x = x then lexLt xs xs else decide (x < x)) = false
    rw [if_pos rfl]
    exact lexLt_irr xs
theorem lexLt_trans : ∀ {a b c : List Int}, lexLt a b = true → lexLt b c = true → lexLt a c = true
  | [], [], _, h, _ => by cases h
  | [], _ :: _, [], _, h => by cases h
  | [], _ :: _, _ :: _, _, _ => rfl
  | _ :: _, [], _, h, _ => by cases h
  | _ :: _, _ :: _, [], _, h => by cases h
  | x :: xs, y :: ys, z :: zs, h1, h2 => by
    unfold lexLt at h1 h2 ⊢
    by_cases e1 : x = y
    · rw [if_pos e1] at h1
      by_cases e2 : y = z
      · rw [if_pos e2] at h2
        rw [if_pos (e1.trans e2)]
        exact lexLt_trans h1 h2
      · rw [if_neg e2] at h2
        rw [e1, if_neg e2]
        exact h2
    · rw [if_neg e1] at h1
      by_cases e2 : y = z
      · rw [← e2, if_neg e1]
        exact h1
      · rw [if_neg e2] at h2
        have h1' := of_decide_eq_true h1
        have h2' := of_decide_eq_true h2
        rw [if_neg (by omega)]
        exact decide_eq_true (by omega)
theorem lexLt_tri : ∀ {a b : List Int}, lexLt a b = false → lexLt b a = false → a = b
  | [], [], _, _ => rfl
  | [], _ :: _, h, _ => by cases h
  | _ :: _, [], _, h => by cases h
  | x :: xs, y :: ys, h1, h2 => by
    unfold lexLt at h1 h2
    by_cases e : x = y
    · rw [if_pos e] at h1
      rw [if_pos e.symm] at h2
      rw [e, lexLt_tri h1 h2]
    · rw [if_neg e] at h1
      rw [if_neg (Ne.symm e)] at h2
      have h1' := of_decide_eq_false h1
      have h2' := of_decide_eq_false h2
      omega
/-- not greater, then not greater -/
theorem lexLe_trans {a b c : List Int} (h1 : lexLt b a = false) (h2 : lexLt c b = false) : lexLt c a = false := by
  cases h : lexLt c a with
  | false => rfl
  | true =>
    cases h3 : lexLt b c with
    | true =>
      rw [lexLt_trans h3 h] at h1
      cases h1
    | false =>
      rw [← lexLt_tri h3 h2, h1] at h
      cases h
theorem lexLe_of_lt {a b : List Int} (h : lexLt a b = true) : lexLt b a = false := by
  cases h2 : lexLt b a with
  | false => rfl
  | true =>
    have := lexLt_irr a
    rw [lexLt_trans h h2] at this
    cases this

/-- the first of the least ones by a key -/
def minBy {α : Type} (k : α → List Int) (x : α) (xs : List α) : α := xs.foldl (fun b y => if lexLt (k y) (k b) = true then y else b) x
theorem minBy_mem {α : Type} (k : α → List Int) : ∀ (xs : List α) (x : α), minBy k x xs ∈ x :: xs
  | [], x => by simp [minBy]
  | y :: ys, x => by
    show minBy k (if lexLt (k y) (k x) = true then y else x) ys ∈ x :: y :: ys
    have h := minBy_mem k ys (if lexLt (k y) (k x) = true then y else x)
    rcases List.mem_cons.mp h with e | e
    · rw [e]
      split
      · simp
      · simp
    · simp [e]
theorem minBy_le {α : Type} (k : α → List Int) : ∀ (xs : List α) (x : α), ∀ y ∈ x :: xs, lexLt (k y) (k (minBy k x xs)) = false
  | [], x, y, hy => by
    have e : y = x := by simpa using hy
    rw [e]
    exact lexLt_irr _
  | z :: zs, x, y, hy => by
    have ih := minBy_le k zs (if lexLt (k z) (k x) = true then z else x)
    show lexLt (k y) (k (minBy k (if lexLt (k z) (k x) = true then z else x) zs)) = false
    have h0 := ih _ List.mem_cons_self
    have hx : lexLt (k x) (k (if lexLt (k z) (k x) = true then z else x)) = false := by
      split
      · rename_i h
        exact lexLe_of_lt h
      · exact lexLt_irr _
    have hz : lexLt (k z) (k (if lexLt (k z) (k x) = true then z else x)) = false := by
      split
      · exact lexLt_irr _
      · rename_i h
        simpa using h
    rcases List.mem_cons.mp hy with e | hy
    · rw [e]
      exact lexLe_trans h0 hx
    · rcases List.mem_cons.mp hy with e | hy
      · rw [e]
        exact lexLe_trans h0 hz
      · exact ih y (List.mem_cons_of_mem _ hy)

/-! ### rows and rules -/
inductive It where
  | box (w : Int)
  | glue (n s o k : Int)
  | part (a b c : Int)
  | pen (p : Int)
  deriving DecidableEq
def It.stays : It → Bool
  | .box _ => true
  | .part _ _ _ => true
  | _ => false
def It.isPart : It → Bool
  | .part _ _ _ => true
  | _ => false
def It.forced : It → Bool
  | .pen p => decide (p = -10000)
  | _ => false
def It.natW : It → Int
  | .box w => w
  | .glue n _ _ _ => n
  | .part _ _ c => c
  | .pen _ => 0
def It.ahead : It → Int
  | .part a _ _ => a
  | _ => 0
def It.behind : It → Int
  | .part _ b _ => b
  | _ => 0
def It.str (o : Int) : It → Int
  | .glue _ s o' _ => if o' = o then s else 0
  | _ => 0
def It.shr : It → Int
  | .glue _ _ _ k => k
  | _ => 0
structure Ru where
  ws : List Int
  tol : Int
  line : Int
  hyp : Int
  unl : Int
  dbl : Int
  last : Int
  room : Int
  loose : Int
abbrev Row := List It
def at_ (r : Row) (i : Nat) : It := r.getD i (.pen 0)
def isPlace (r : Row) (hyp : Int) (i : Nat) : Bool := match at_ r i with
  | .glue _ _ _ _ => decide (0 < i) && (at_ r (i - 1)).stays
  | .pen p => decide (p < 10000)
  | .part _ _ _ => decide (hyp < 10000)
  | .box _ => false
def places (r : Row) (hyp : Int) : List Nat := (List.range r.length).filter (isPlace r hyp)
def firstStay (r : Row) (j : Nat) : Nat := if j < r.length then (if (at_ r j).stays || (at_ r j).forced then j else firstStay r (j + 1)) else r.length - 1
termination_by r.length - j
def startOf (r : Row) (p : Int) : Nat := if p = -1 then 0 else if (at_ r p.toNat).isPart then p.toNat + 1 else firstStay r (p.toNat + 1)
def cutAt {α : Type} (f : α → Bool) : List α → List α
  | [] => []
  | x :: xs => x :: (if f x then [] else cutAt f xs)
def nexts (r : Row) (hyp : Int) (p : Int) : List Nat := cutAt (fun i => (at_ r i).forced) ((places r hyp).filter fun i => decide (startOf r p ≤ i))
/-! ### lines -/
def seg (r : Row) (a b : Nat) : Row := (r.drop a).take (b - a)
def natOf (r : Row) (p : Int) (e : Nat) : Int := ((seg r (startOf r p) e).map It.natW).sum + ((if p = -1 then 0 else (at_ r p.toNat).behind) + (at_ r e).ahead)
def strOf (r : Row) (o : Int) (p : Int) (e : Nat) : Int := ((seg r (startOf r p) e).map (It.str o)).sum
def shrOf (r : Row) (p : Int) (e : Nat) : Int := ((seg r (startOf r p) e).map It.shr).sum
def widthOf (ru : Ru) (n : Int) : Int := ru.ws.getD (min n (ru.ws.length : Int) - 1).toNat 0
def restOf (r : Row) (ru : Ru) (p : Int) (e : Nat) (n : Int) : Int := widthOf ru n - natOf r p e
def fullOf (r : Row) (ru : Ru) (p : Int) (e : Nat) (n : Int) : Int := max 0 (-(restOf r ru p e n) - shrOf r p e)
def badBy (w room : Int) : Int := if w = 0 then 0 else if room = 0 then 10000 else min 10000 ((100 * w ^ 3) / room ^ 3)
def badOf (r : Row) (ru : Ru) (p : Int) (e : Nat) (n : Int) : Int :=
  if 0 < fullOf r ru p e n then 10000
  else if restOf r ru p e n < 0 then badBy (-(restOf r ru p e n)) (shrOf r p e)
  else if 0 < strOf r 1 p e ∨ 0 < strOf r 2 p e ∨ 0 < strOf r 3 p e then 0
  else badBy (restOf r ru p e n) (strOf r 0 p e + ru.room)
def clsBy (b rest : Int) : Int := if b ≤ 12 then 1 else if rest < 0 then 0 else if b ≤ 99 then 2 else 3
def clsOf (r : Row) (ru : Ru) (p : Int) (e : Nat) (n : Int) : Int := clsBy (badOf r ru p e n) (restOf r ru p e n)
def wrongOf (r : Row) (ru : Ru) (p : Int) (e : Nat) (n : Int) : Bool := decide (0 < fullOf r ru p e n) || decide (ru.tol < badOf r ru p e n)
def penOf (r : Row) (ru : Ru) (e : Nat) : Int := match at_ r e with
  | .part _ _ _ => ru.hyp
  | .pen p => if p = -10000 then 0 else p
  | _ => 0
def demOf (r : Row) (ru : Ru) (p : Int) (e : Nat) (n : Int) (cls : Int) (h : Bool) : Int :=
  (ru.line + badOf r ru p e n) ^ 2 + (if 0 ≤ penOf r ru e then (penOf r ru e) ^ 2 else -((penOf r ru e) ^ 2))
    + (if 1 < (clsOf r ru p e n - cls).natAbs then ru.unl else 0)
    + (if h && (at_ r e).isPart then ru.dbl else 0)
    + (if h && decide (e + 1 = r.length) then ru.last else 0)
structure Nd where
  p : Int
  n : Int
  c : Int
  h : Bool
  deriving DecidableEq
abbrev Cost := Int × Int × Int
def first : Nd := ⟨-1, 0, 1, false⟩
def zero : Cost := (0, 0, 0)
def cadd (a b : Cost) : Cost := (a.1 + b.1, a.2.1 + b.2.1, a.2.2 + b.2.2)
def b2i (b : Bool) : Int := if b then 1 else 0
def step (r : Row) (ru : Ru) (x : Nd) (e : Nat) : Nd × Cost :=
  (⟨(e : Int), x.n + 1, clsOf r ru x.p e (x.n + 1), (at_ r e).isPart⟩, (b2i (wrongOf r ru x.p e (x.n + 1)), fullOf r ru x.p e (x.n + 1), demOf r ru x.p e (x.n + 1) x.c x.h))
def isEnd (r : Row) (x : Nd) : Bool := decide (x.p = (r.length : Int) - 1)
def steps (r : Row) (ru : Ru) (x : Nd) : List (Nd × Cost) := (nexts r ru.hyp x.p).map (step r ru x)
def outs (r : Row) (ru : Ru) (wr : Bool) (x : Nd) : List (Nd × Cost) := if isEnd r x then [] else (steps r ru x).filter fun y => wr || decide (y.2.1 = 0)
def key (c : Cost) : List Int := [c.1, c.2.1, c.2.2]
def clt (a b : Cost) : Bool := lexLt (key a) (key b)
theorem clt_iff {a b : Cost} : clt a b = true ↔ a.1 < b.1 ∨ (a.1 = b.1 ∧ (a.2.1 < b.2.1 ∨ (a.2.1 = b.2.1 ∧ a.2.2 < b.2.2))) := by
  unfold clt key
  simp only [lexLt]
  by_cases h1 : a.1 = b.1
  · rw [if_pos h1]
    by_cases h2 : a.2.1 = b.2.1
    · rw [if_pos h2]
      by_cases h3 : a.2.2 = b.2.2
      · rw [if_pos h3]
        constructor
        · intro h
          cases h
        · intro h
          omega
      · rw [if_neg h3, decide_eq_true_iff]
        omega
    · rw [if_neg h2, decide_eq_true_iff]
      omega
  · rw [if_neg h1, decide_eq_true_iff]
    omega
theorem cle_iff {a b : Cost} : clt b a = false ↔ ¬ (b.1 < a.1 ∨ (b.1 = a.1 ∧ (b.2.1 < a.2.1 ∨ (b.2.1 = a.2.1 ∧ b.2.2 < a.2.2)))) := by
  rw [← clt_iff]
  simp
theorem cadd_mono {a b c : Cost} (h : clt b a = false) : clt (cadd b c) (cadd a c) = false := by
  rw [cle_iff] at h ⊢
  unfold cadd
  dsimp only
  omega
theorem cle_refl (a : Cost) : clt a a = false := lexLt_irr _
theorem cle_trans {a b c : Cost} (h1 : clt b a = false) (h2 : clt c b = false) : clt c a = false := lexLe_trans h1 h2
/-! ### ways -/
inductive Path (r : Row) (ru : Ru) (wr : Bool) : Nd → Cost → List Int → Prop
  | nil : Path r ru wr first zero []
  | snoc {x y : Nd} {c d : Cost} {w : List Int} : Path r ru wr x c w → (y, d) ∈ outs r ru wr x → Path r ru wr y (cadd c d) (w ++ [y.p])

theorem firstStay_ge (r : Row) (j : Nat) (h : j ≤ r.length - 1) : j ≤ firstStay r j := by
  fun_induction firstStay r j with
  | case1 j h1 h2 => exact Nat.le_refl _
  | case2 j h1 h2 ih =>
    by_cases h3 : j + 1 ≤ r.length - 1
    · have := ih h3
      omega
    · have : j + 1 = r.length := by omega
      unfold firstStay
      rw [if_neg (by omega)]
      omega
  | case3 j h1 => omega
theorem cutAt_sub {α : Type} (f : α → Bool) : ∀ (xs : List α) (x : α), x ∈ cutAt f xs → x ∈ xs
  | [], x, h => h
  | y :: ys, x, h => by
    unfold cutAt at h
    rcases List.mem_cons.mp h with e | h
    · rw [e]
      exact List.mem_cons_self
    · split at h
      · cases h
      · exact List.mem_cons_of_mem _ (cutAt_sub f ys x h)
theorem nexts_mem {r : Row} {hyp p : Int} {e : Nat} (h : e ∈ nexts r hyp p) : e < r.length ∧ isPlace r hyp e = true ∧ startOf r p ≤ e := by
  have h1 := cutAt_sub _ _ _ h
  rw [List.mem_filter] at h1
  obtain ⟨h2, h3⟩ := h1
  unfold places at h2
  rw [List.mem_filter, List.mem_range] at h2
  exact ⟨h2.1, h2.2, of_decide_eq_true h3⟩
/-- a place of the row, or -1, other than the end -/
def Pl (r : Row) (p : Int) : Prop := p = -1 ∨ (0 ≤ p ∧ p < (r.length : Int) - 1)
theorem startOf_gt {r : Row} {p : Int} (h : Pl r p) : p < (startOf r p : Int) := by
  unfold startOf
  by_cases h1 : p = -1
  · rw [if_pos h1]
    omega
  · rw [if_neg h1]
    rcases h with h | h
    · omega
    · split
      · omega
      · have := firstStay_ge r (p.toNat + 1) (by omega)
        omega
theorem outs_mem {r : Row} {ru : Ru} {wr : Bool} {x y : Nd} {d : Cost} (h : (y, d) ∈ outs r ru wr x) : isEnd r x = false ∧ ∃ e, e ∈ nexts r ru.hyp x.p ∧ step r ru x e = (y, d) ∧ (wr = true ∨ d.1 = 0) := by
  unfold outs at h
  cases hx : isEnd r x with
  | true =>
    rw [hx, if_pos rfl] at h
    cases h
  | false =>
    rw [hx, if_neg Bool.false_ne_true] at h
    rw [List.mem_filter] at h
    obtain ⟨h1, h2⟩ := h
    unfold steps at h1
    obtain ⟨e, he, e2⟩ := List.mem_map.mp h1
    refine ⟨rfl, e, he, e2, ?_⟩
    simpa using h2
theorem outs_of {r : Row} {ru : Ru} {wr : Bool} {x : Nd} {e : Nat} (hx : isEnd r x = false) (he : e ∈ nexts r ru.hyp x.p) (hw : wr = true ∨ (step r ru x e).2.1 = 0) : step r ru x e ∈ outs r ru wr x := by
  unfold outs
  rw [hx, if_neg Bool.false_ne_true, List.mem_filter]
  refine ⟨List.mem_map.mpr ⟨e, he, rfl⟩, ?_⟩
  simpa using hw
/-- a node's place is -1 or a place of the row -/
def Good (r : Row) (hyp : Int) (x : Nd) : Prop := x.p = -1 ∨ (0 ≤ x.p ∧ x.p < (r.length : Int) ∧ isPlace r hyp x.p.toNat = true)
theorem Good.pl {r : Row} {hyp : Int} {x : Nd} (g : Good r hyp x) (h : isEnd r x = false) : Pl r x.p := by
  have h' : ¬ x.p = (r.length : Int) - 1 := of_decide_eq_false h
  rcases g with g | ⟨g1, g2, g3⟩
  · exact .inl g
  · exact .inr ⟨g1, by omega⟩
theorem outs_good {r : Row} {ru : Ru} {wr : Bool} {x y : Nd} {d : Cost} (g : Good r ru.hyp x) (h : (y, d) ∈ outs r ru wr x) : Good r ru.hyp y ∧ x.p < y.p ∧ y.n = x.n + 1 ∧ 0 ≤ y.p := by
  obtain ⟨hx, e, he, hs, _⟩ := outs_mem h
  obtain ⟨h1, h2, h3⟩ := nexts_mem he
  have h4 := startOf_gt (g.pl hx)
  have ey : y = (step r ru x e).1 := by rw [hs]
  have ep : y.p = (e : Int) := by rw [ey]; rfl
  refine ⟨.inr ⟨by omega, by omega, ?_⟩, by omega, by rw [ey]; rfl, by omega⟩
  rw [ep, Int.toNat_natCast]
  exact h2
theorem first_good {r : Row} {hyp : Int} : Good r hyp first := .inl rfl
theorem Path.good {r : Row} {ru : Ru} {wr : Bool} {x : Nd} {c : Cost} {w : List Int} (h : Path r ru wr x c w) : Good r ru.hyp x ∧ x.n = (w.length : Int) ∧ -1 ≤ x.p ∧ (w.length : Int) ≤ x.p + 1 := by
  induction h with
  | nil => exact ⟨first_good, rfl, by decide, by decide⟩
  | snoc h1 h2 ih =>
    obtain ⟨g, hn, hp, hl⟩ := ih
    obtain ⟨a, b, c, d⟩ := outs_good g h2
    refine ⟨a, ?_, by omega, ?_⟩
    · rw [c, hn, List.length_append]
      rfl
    · rw [List.length_append]
      show ((_ + 1 : Nat) : Int) ≤ _
      omega
/-! ### nodes -/
abbrev Fd := List (Nd × Cost × Option Nd)
def fget (fd : Fd) (x : Nd) : Option (Cost × Option Nd) := (fd.find? fun e => decide (e.1 = x)).map (·.2)
def fput (fd : Fd) (x : Nd) (v : Cost × Option Nd) : Fd :=
  if (fd.any fun e => decide (e.1 = x)) = true then fd.map (fun e => if e.1 = x then (e.1, v) else e) else fd ++ [(x, v)]
theorem fget_nil {x : Nd} : fget [] x = none := rfl
theorem fget_pos {p : Nd × Cost × Option Nd} {r : Fd} {k : Nd} (e : p.1 = k) : fget (p :: r) k = some p.2 := by simp [fget, List.find?_cons, e]
theorem fget_neg {p : Nd × Cost × Option Nd} {r : Fd} {k : Nd} (e : ¬ p.1 = k) : fget (p :: r) k = fget r k := by simp [fget, List.find?_cons, e]
theorem fget_any (k : Nd) : ∀ fd : Fd, (fd.any fun e => decide (e.1 = k)) = (fget fd k).isSome
  | [] => rfl
  | p :: r => by
    rw [List.any_cons]
    by_cases e : p.1 = k
    · simp only [fget_pos e, decide_eq_true e, Bool.true_or, Option.isSome_some]
    · rw [fget_neg e, decide_eq_false e, Bool.false_or]
      exact fget_any k r
theorem fget_map (k j : Nd) (v : Cost × Option Nd) : ∀ fd : Fd, fget (fd.map fun e => if e.1 = k then (e.1, v) else e) j = (fget fd j).map fun x => if j = k then v else x
  | [] => rfl
  | p :: r => by
    have ih := fget_map k j v r
    rw [List.map_cons]
    by_cases h : p.1 = k
    · rw [if_pos h]
      by_cases e : p.1 = j
      · rw [fget_pos (p := (p.1, v)) e, fget_pos e, Option.map_some, if_pos (e.symm.trans h)]
      · rw [fget_neg (p := (p.1, v)) e, fget_neg e, ih]
    · rw [if_neg h]
      by_cases e : p.1 = j
      · rw [fget_pos e, fget_pos e, Option.map_some, if_neg (fun z => h (e.trans z))]
      · rw [fget_neg e, fget_neg e, ih]
theorem fget_snoc (k j : Nd) (v : Cost × Option Nd) : ∀ fd : Fd, fget fd k = none → fget (fd ++ [(k, v)]) j = if j = k then some v else fget fd j
  | [], _ => by
    by_cases e : k = j
    · rw [if_pos e.symm]
      exact fget_pos (p := (k, v)) e
    · rw [if_neg (fun z => e z.symm)]
      exact fget_neg (p := (k, v)) e
  | p :: r, hn => by
    rw [List.cons_append]
    have hk : ¬ p.1 = k := fun z => by rw [fget_pos z] at hn; cases hn
    rw [fget_neg hk] at hn
    have ih := fget_snoc k j v r hn
    by_cases e : p.1 = j
    · rw [fget_pos e, fget_pos e, if_neg (fun z => hk (e.trans z))]
    · rw [fget_neg e, fget_neg e, ih]
theorem fget_put (fd : Fd) (k j : Nd) (v : Cost × Option Nd) : fget (fput fd k v) j = if j = k then some v else fget fd j := by
  unfold fput
  by_cases a : (fd.any fun e => decide (e.1 = k)) = true
  · rw [if_pos a, fget_map]
    rw [fget_any] at a
    by_cases e : j = k
    · obtain ⟨x, hx⟩ := Option.isSome_iff_exists.mp a
      rw [if_pos e, e, hx, Option.map_some, if_pos rfl]
    · rw [if_neg e]
      cases fget fd j with
      | none => rfl
      | some x => rw [Option.map_some, if_neg e]
  · rw [if_neg a]
    refine fget_snoc k j v fd ?_
    rw [fget_any] at a
    cases q : fget fd k with
    | none => rfl
    | some x =>
      rw [q] at a
      exact (a rfl).elim
theorem fget_mem {fd : Fd} {x : Nd} {v : Cost × Option Nd} (h : fget fd x = some v) : (x, v) ∈ fd := by
  unfold fget at h
  obtain ⟨e, he, e2⟩ := Option.map_eq_some_iff.mp h
  have h1 := List.mem_of_find?_eq_some he
  have h2 : e.1 = x := by simpa using List.find?_some he
  have e3 : e = (x, v) := by
    rw [← h2, ← e2]
  rw [← e3]
  exact h1
theorem fget_of_mem {fd : Fd} (hn : (fd.map (·.1)).Nodup) {x : Nd} {v : Cost × Option Nd} (h : (x, v) ∈ fd) : fget fd x = some v := by
  induction fd with
  | nil => cases h
  | cons p r ih =>
    rw [List.map_cons, List.nodup_cons] at hn
    rcases List.mem_cons.mp h with e | h
    · rw [← e]
      exact fget_pos rfl
    · have hne : ¬ p.1 = x := fun z => hn.1 (by rw [z]; exact List.mem_map.mpr ⟨_, h, rfl⟩)
      rw [fget_neg hne]
      exact ih hn.2 h
theorem fput_keys (fd : Fd) (k : Nd) (v : Cost × Option Nd) : (fput fd k v).map (·.1) = if (fget fd k).isSome = true then fd.map (·.1) else fd.map (·.1) ++ [k] := by
  unfold fput
  rw [fget_any]
  split
  · rw [List.map_map]
    refine List.map_congr_left fun e _ => ?_
    show (if e.1 = k then (e.1, v) else e).1 = e.1
    split <;> rfl
  · rw [List.map_append]
    rfl
theorem fput_nodup {fd : Fd} (hn : (fd.map (·.1)).Nodup) (k : Nd) (v : Cost × Option Nd) : ((fput fd k v).map (·.1)).Nodup := by
  rw [fput_keys]
  split
  · exact hn
  · rename_i h
    rw [List.nodup_append]
    refine ⟨hn, by simp, fun a ha b hb => ?_⟩
    have e : b = k := by simpa using hb
    rw [e]
    intro e2
    rw [e2] at ha
    obtain ⟨y, hy, ey⟩ := List.mem_map.mp ha
    have : fget fd k = some y.2 := fget_of_mem hn (by rw [← ey]; exact hy)
    rw [this] at h
    exact h rfl
def nodesAt (fd : Fd) (q : Int) : List Nd := (fd.map (·.1)).filter fun x => decide (x.p = q)
def costAt (fd : Fd) (x : Nd) : Cost := match fget fd x with
  | some v => v.1
  | none => zero
def relax (x : Nd) (fd : Fd) (y : Nd × Cost) : Fd :=
  let total := cadd (costAt fd x) y.2
  match fget fd y.1 with
  | none => fput fd y.1 (total, some x)
  | some v => if clt total v.1 = true then fput fd y.1 (total, some x) else fd
def turnAt (r : Row) (ru : Ru) (wr : Bool) (fd : Fd) (x : Nd) : Fd := (outs r ru wr x).foldl (relax x) fd
def turnPl (r : Row) (ru : Ru) (wr : Bool) (fd : Fd) (q : Int) : Fd := (nodesAt fd q).foldl (turnAt r ru wr) fd
def begun : Fd := [(first, zero, none)]
def allNodes (r : Row) (ru : Ru) (wr : Bool) : Fd := ((-1 : Int) :: (places r ru.hyp).map (fun (i : Nat) => (i : Int))).foldl (turnPl r ru wr) begun

/-! ### the invariant -/
/-- the edges that are relaxed already -/
abbrev Done := Nd → Nd × Cost → Prop
structure J (r : Row) (ru : Ru) (wr : Bool) (fd : Fd) (D : Done) (P : Int) : Prop where
  nd : (fd.map (·.1)).Nodup
  fst : fget fd first = some (zero, none)
  src : ∀ x c o, fget fd x = some (c, o) → (x = first ∧ c = zero ∧ o = none) ∨ ∃ q cq oq d, o = some q ∧ fget fd q = some (cq, oq) ∧ D q (x, d) ∧ c = cadd cq d
  out : ∀ q cq oq x d, fget fd q = some (cq, oq) → D q (x, d) → ∃ cx ox, fget fd x = some (cx, ox) ∧ clt (cadd cq d) cx = false
  low : ∀ q y, D q y → q.p ≤ P ∧ y ∈ outs r ru wr q
  good : ∀ x v, fget fd x = some v → Good r ru.hyp x
theorem J.imp {r : Row} {ru : Ru} {wr : Bool} {fd : Fd} {D D' : Done} {P P' : Int} (j : J r ru wr fd D P) (h : ∀ q y, D q y ↔ D' q y) (hp : P ≤ P') : J r ru wr fd D' P' :=
  ⟨j.nd, j.fst, fun x c o e => (j.src x c o e).imp id fun ⟨q, cq, oq, d, a, b, c', e'⟩ => ⟨q, cq, oq, d, a, b, (h _ _).mp c', e'⟩, fun q cq oq x d a b => j.out q cq oq x d a ((h _ _).mpr b), fun q y a => by
    have := j.low q y ((h _ _).mpr a)
    exact ⟨by omega, this.2⟩, j.good⟩
theorem relax_ok {r : Row} {ru : Ru} {wr : Bool} {fd : Fd} {D : Done} {P : Int} {x : Nd} {cx : Cost} {ox : Option Nd} {y : Nd × Cost} (j : J r ru wr fd D P) (hx : fget fd x = some (cx, ox)) (hp : x.p = P) (hy : y ∈ outs r ru wr x) :
    J r ru wr (relax x fd y) (fun q z => D q z ∨ (q = x ∧ z = y)) P ∧ (∀ q, q.p ≤ P → fget (relax x fd y) q = fget fd q) ∧ ((∀ q, q.p ≤ P → (q ∈ (relax x fd y).map (·.1) ↔ q ∈ fd.map (·.1))) ∧ ∃ more, (relax x fd y).map (·.1) = fd.map (·.1) ++ more ∧ ∀ z ∈ more, P < z.p) := by
  obtain ⟨z, d⟩ := y
  have gx := j.good x _ hx
  obtain ⟨gz, lt, _, _⟩ := outs_good gx hy
  have ec : costAt fd x = cx := by
    unfold costAt
    rw [hx]
  have hz : ∀ q, q.p ≤ P → ¬ q = z := fun q h e => by
    rw [e] at h
    omega
  have nz : ∀ q w, D q w → ¬ q = z := fun q w h => hz q (j.low q w h).1
  have nf : ¬ first = z := by
    rintro e
    have h1 := (outs_good gx hy).2.2.2
    rw [← e] at h1
    exact absurd h1 (by decide)
  -- z gets the total
  have put : (∀ v, fget fd z = some v → clt (cadd cx d) v.1 = true) → J r ru wr (fput fd z (cadd cx d, some x)) (fun q w => D q w ∨ (q = x ∧ w = (z, d))) P := fun hl => by
    refine ⟨fput_nodup j.nd _ _, by rw [fget_put, if_neg nf]; exact j.fst, fun a c o e => ?_, fun q cq oq a d' e hd => ?_, fun q w h => ?_, fun a v e => ?_⟩
    · rw [fget_put] at e
      by_cases ea : a = z
      · rw [if_pos ea] at e
        cases e
        refine .inr ⟨x, cx, ox, d, rfl, ?_, .inr ⟨rfl, by rw [ea]⟩, rfl⟩
        rw [fget_put, if_neg (hz x (by omega))]
        exact hx
      · rw [if_neg ea] at e
        rcases j.src a c o e with h | ⟨q, cq, oq, d', h1, h2, h3, h4⟩
        · exact .inl h
        · refine .inr ⟨q, cq, oq, d', h1, ?_, .inl h3, h4⟩
          rw [fget_put, if_neg (nz q _ h3)]
          exact h2
    · have qz : ¬ q = z := by
        rcases hd with h | ⟨h, _⟩
        · exact nz q _ h
        · rw [h]
          exact hz x (by omega)
      rw [fget_put, if_neg qz] at e
      rcases hd with h | ⟨h1, h2⟩
      · obtain ⟨ca, oa, h1, h2⟩ := j.out q cq oq a d' e h
        by_cases ea : a = z
        · rw [ea, fget_put, if_pos rfl]
          rw [ea] at h1
          exact ⟨_, _, rfl, cle_trans (lexLe_of_lt (hl _ h1)) h2⟩
        · rw [fget_put, if_neg ea]
          exact ⟨ca, oa, h1, h2⟩
      · cases h2
        rw [h1, hx] at e
        cases e
        rw [fget_put, if_pos rfl]
        exact ⟨_, _, rfl, cle_refl _⟩
    · rcases h with h | ⟨h1, h2⟩
      · exact j.low q w h
      · rw [h1, h2]
        exact ⟨by omega, hy⟩
    · rw [fget_put] at e
      by_cases ea : a = z
      · rw [ea]
        exact gz
      · rw [if_neg ea] at e
        exact j.good a v e
  have keysP : ∀ v, ∃ more, (fput fd z v).map (·.1) = fd.map (·.1) ++ more ∧ ∀ w ∈ more, P < w.p := fun v => by
    rw [fput_keys]
    split
    · exact ⟨[], by rw [List.append_nil], fun w h => nomatch h⟩
    · refine ⟨[z], rfl, fun w h => ?_⟩
      have e : w = z := by simpa using h
      rw [e]
      omega
  have keys : ∀ fd' : Fd, (∃ more, fd'.map (·.1) = fd.map (·.1) ++ more ∧ ∀ w ∈ more, P < w.p) → ∀ q, q.p ≤ P → (q ∈ fd'.map (·.1) ↔ q ∈ fd.map (·.1)) := fun fd' ⟨more, e, hm⟩ q hq => by
    rw [e, List.mem_append]
    constructor
    · rintro (h | h)
      · exact h
      · have := hm q h
        omega
    · exact .inl
  have gput : ∀ v q, q.p ≤ P → fget (fput fd z v) q = fget fd q := fun v q hq => by rw [fget_put, if_neg (hz q hq)]
  unfold relax
  simp only [ec]
  cases hz2 : fget fd z with
  | none =>
    refine ⟨put fun v e => ?_, gput _, keys _ (keysP _), keysP _⟩
    rw [hz2] at e
    cases e
  | some v =>
    by_cases hl : clt (cadd cx d) v.1 = true
    · simp only [if_pos hl]
      refine ⟨put fun v' e => ?_, gput _, keys _ (keysP _), keysP _⟩
      rw [hz2] at e
      cases e
      exact hl
    · simp only [if_neg hl]
      refine ⟨⟨j.nd, j.fst, fun a c o e => (j.src a c o e).imp id fun ⟨q, cq, oq, d', h1, h2, h3, h4⟩ => ⟨q, cq, oq, d', h1, h2, .inl h3, h4⟩, fun q cq oq a d' e hd => ?_, fun q w h => ?_, j.good⟩, fun _ _ => by simp, fun _ _ => by simp, [], by rw [List.append_nil], fun w h => nomatch h⟩
      · rcases hd with h | ⟨h1, h2⟩
        · exact j.out q cq oq a d' e h
        · cases h2
          rw [h1, hx] at e
          cases e
          exact ⟨v.1, v.2, hz2, by simpa using hl⟩
      · rcases h with h | ⟨h1, h2⟩
        · exact j.low q w h
        · rw [h1, h2]
          exact ⟨by omega, hy⟩
theorem relaxes_ok {r : Row} {ru : Ru} {wr : Bool} {P : Int} {x : Nd} : ∀ (ys : List (Nd × Cost)) (fd : Fd) (D : Done), J r ru wr fd D P → (fget fd x).isSome = true → x.p = P → (∀ y ∈ ys, y ∈ outs r ru wr x) →
    J r ru wr (ys.foldl (relax x) fd) (fun q z => D q z ∨ (q = x ∧ z ∈ ys)) P ∧ (∀ q, q.p ≤ P → fget (ys.foldl (relax x) fd) q = fget fd q) ∧ ∃ more, (ys.foldl (relax x) fd).map (·.1) = fd.map (·.1) ++ more ∧ ∀ z ∈ more, P < z.p
  | [], fd, D, j, _, _, _ => ⟨j.imp (fun q y => by simp) (Int.le_refl _), fun _ _ => rfl, [], by simp, fun z h => nomatch h⟩
  | y :: ys, fd, D, j, hx, hp, hy => by
    obtain ⟨v, hv⟩ := Option.isSome_iff_exists.mp hx
    obtain ⟨j1, k1, _, m1, e1, l1⟩ := relax_ok (cx := v.1) (ox := v.2) j hv hp (hy y List.mem_cons_self)
    have hx1 : (fget (relax x fd y) x).isSome = true := by
      rw [k1 x (by omega)]
      exact hx
    obtain ⟨j2, k2, m2, e2, l2⟩ := relaxes_ok ys (relax x fd y) _ j1 hx1 hp fun z hz => hy z (List.mem_cons_of_mem _ hz)
    refine ⟨j2.imp (fun q z => ?_) (Int.le_refl _), fun q hq => (k2 q hq).trans (k1 q hq), m1 ++ m2, ?_, fun z hz => ?_⟩
    · rw [List.mem_cons]
      constructor
      · rintro ((h | ⟨h1, h2⟩) | ⟨h1, h2⟩)
        · exact .inl h
        · exact .inr ⟨h1, .inl h2⟩
        · exact .inr ⟨h1, .inr h2⟩
      · rintro (h | ⟨h1, h2 | h2⟩)
        · exact .inl (.inl h)
        · exact .inl (.inr ⟨h1, h2⟩)
        · exact .inr ⟨h1, h2⟩
    · rw [List.foldl_cons, e2, e1, List.append_assoc]
    · rcases List.mem_append.mp hz with h | h
      · exact l1 z h
      · exact l2 z h
end K51
set_option Elab.async false
set_option linter.all false
set_option maxRecDepth 100000
set_option maxHeartbeats 4000000
namespace K51
open PySem PySem.Spec PyProof.Rows L2 Evl
/-! ### what the module's names stand for -/
structure Tx (K : PySem.W.Frag) (mg : Str → Option Value) (cG cR cL aF : Addr) : Prop where
  abs_ : mg "abs" = none
  len_ : mg "len" = none
  all_ : mg "all" = none
  any_ : mg "any" = none
  sum_ : mg "sum" = none
  min_ : mg "min" = none
  max_ : mg "max" = none
  range_ : mg "range" = none
  isinstance_ : mg "isinstance" = none
  int_ : mg "int" = none
  bool_ : mg "bool" = none
  str_ : mg "str" = none
  tuple_ : mg "tuple" = none
  list_ : mg "list" = none
  dict_ : mg "dict" = none
  enumerate_ : mg "enumerate" = none
  g_BOUND : Gi mg "BOUND" (10 ^ 60)
  g_MAX_LENGTH : Gi mg "MAX_LENGTH" 1073741823
  g_MAX_ORDER : Gi mg "MAX_ORDER" 3
  g_MOST_ITEMS : Gi mg "MOST_ITEMS" 1000
  g_MOST_NODES : Gi mg "MOST_NODES" 20000
  g_MOST_WIDTHS : Gi mg "MOST_WIDTHS" 40
  g_CLOSED : Gi mg "CLOSED" 10000
  g_OPENED : Gi mg "OPENED" (-10000)
  g_WORST : Gi mg "WORST" 10000
  g_TIGHT : Gi mg "TIGHT" 12
  g_LOOSE : Gi mg "LOOSE" 99
  g_NEVER : Gi mg "NEVER" 10000
  g_FORCED : Gi mg "FORCED" (-10000)
  g_HIGHEST : Gi mg "HIGHEST" 1000000
  g_LEAST_LOOSENESS : Gi mg "LEAST_LOOSENESS" (-100)
  g_MOST_LOOSENESS : Gi mg "MOST_LOOSENESS" 100
  g_Glue : mg "Glue" = some (.ref cG)
  g_Rules : mg "Rules" = some (.ref cR)
  g_LineFacts : mg "LineFacts" = some (.ref cL)
  g_FIRST_NODE : mg "FIRST_NODE" = some (.ref aF)
/-! ### readings, further -/
section
variable {K : PySem.W.Frag} {σ : L2.St} {H : Hp} {ta tb te : TE} {t u : TT} {x y v : V}
theorem ev_abs {i : Int} (ha : Ev ta σ H (.int i)) : Ev (tCB (fun xs H Q => ∃ i, xs = [V.int i] ∧ Q (.int (if i < 0 then -i else i)) H) (tCons ta tNil)) σ H (.int (if i < 0 then -i else i)) := fun H1 e Q q =>
  ha H1 e _ fun H2 e2 => ⟨i, rfl, q H2 e2⟩
theorem ev_min2 {i j : Int} (ha : Ev ta σ H (.int i)) (hb : Ev tb σ H (.int j)) : Ev (tCB (fun xs H Q => ∃ i j, xs = [V.int i, V.int j] ∧ Q (.int (if j < i then j else i)) H) (tCons ta (tCons tb tNil))) σ H (.int (if j < i then j else i)) := fun H1 e Q q =>
  ha H1 e _ fun H2 e2 => hb H2 (e.trans e2) _ fun H3 e3 => ⟨i, j, rfl, q H3 (e2.trans e3)⟩
theorem ev_max2' {i j : Int} (ha : Ev ta σ H (.int i)) (hb : Ev tb σ H (.int j)) : Ev (tCB (fun xs H Q => ∃ i j, xs = [V.int i, V.int j] ∧ Q (.int (if j > i then j else i)) H) (tCons ta (tCons tb tNil))) σ H (.int (if j > i then j else i)) := ev_max2 ha hb
theorem ev_int {i : Int} (ha : Ev ta σ H (.int i)) : Ev (tCB (fun xs H Q => (∃ i, xs = [V.int i] ∧ Q (.int i) H) ∨ ∃ k, xs = [V.bl k] ∧ Q (.int (if k then 1 else 0)) H) (tCons ta tNil)) σ H (.int i) := fun H1 e Q q =>
  ha H1 e _ fun H2 e2 => .inl ⟨i, rfl, q H2 e2⟩
theorem ev_intB {b : Bool} (ha : Ev ta σ H (.bl b)) : Ev (tCB (fun xs H Q => (∃ i, xs = [V.int i] ∧ Q (.int i) H) ∨ ∃ k, xs = [V.bl k] ∧ Q (.int (if k then 1 else 0)) H) (tCons ta tNil)) σ H (.int (if b then 1 else 0)) := fun H1 e Q q =>
  ha H1 e _ fun H2 e2 => .inr ⟨b, rfl, q H2 e2⟩
theorem ev_isi {m n : String} {b : Bool} (ha : Ev ta σ H x) (hb : Ev tb σ H (.ty n)) (ty : ∀ H1, Ex H H1 → TyX K H1 x (.type m)) (h : kitB m n = some b) : Ev (tCB (rIsi K) (tCons ta (tCons tb tNil))) σ H (.bl b) := fun H1 e Q q =>
  ha H1 e _ fun H2 e2 => hb H2 (e.trans e2) _ fun H3 e3 => ⟨x, .ty n, .type m, .type n, b, rfl, .ty n, ty H3 ((e.trans e2).trans e3), kit_ty h, q H3 (e2.trans e3)⟩
theorem ev_isiC {C D : Addr} {b : Bool} (ha : Ev ta σ H x) (hb : Ev tb σ H (.ref C)) (ty : ∀ H1, Ex H H1 → TyX K H1 x (.ref D)) (h : PySem.W.kitOne K (.ref D) (.ref C) = some b) : Ev (tCB (rIsi K) (tCons ta (tCons tb tNil))) σ H (.bl b) := fun H1 e Q q =>
  ha H1 e _ fun H2 e2 => hb H2 (e.trans e2) _ fun H3 e3 => ⟨x, .ref C, .ref D, .ref C, b, rfl, .own C, ty H3 ((e.trans e2).trans e3), h, q H3 (e2.trans e3)⟩
theorem ev_lenS {p : Addr} {xs : List V} (ha : Ev ta σ H (.ref p)) (h : SqL K H p xs ∨ SqT K H p xs) : Ev (tCB (fun xs H Q => ∃ p ys, xs = [V.ref p] ∧ (SqL K H p ys ∨ SqT K H p ys) ∧ Q (.int (ys.length : Int)) H) (tCons ta tNil)) σ H (.int (xs.length : Int)) := fun H1 e Q q =>
  ha H1 e _ fun H2 e2 => ⟨p, xs, rfl, h.imp (ex_l (e.trans e2)) (ex_t (e.trans e2)), q H2 e2⟩
theorem ev_chain {r r' : R2} {tc : TE} {z : V} {a b : Bool} (ha : Ev ta σ H x) (hb : Ev tb σ H y) (hr : RV r x y H (.bl a)) (hc : a = true → Ev tc σ H z) (hr' : a = true → RV r' y z H (.bl b)) : Ev (tChain r r' ta tb tc) σ H (.bl (a && b)) := fun H1 e Q q =>
  ha H1 e _ fun H2 e2 => hb H2 (e.trans e2) _ fun H3 e3 => hr H3 ((e.trans e2).trans e3) _ fun H4 e4 => ⟨a, rfl, by
    cases a with
    | true =>
      show tc σ H4 fun w' H5 => r' y w' H5 Q
      exact hc rfl H4 (((e.trans e2).trans e3).trans e4) _ fun H5 e5 => hr' rfl H5 ((((e.trans e2).trans e3).trans e4).trans e5) Q fun H6 e6 => q H6 ((((e2.trans e3).trans e4).trans e5).trans e6)
    | false =>
      show Q (.bl false) H4
      exact q H4 ((e2.trans e3).trans e4)⟩
theorem ru_negI {i : Int} : RU (rU fun i => .int (-i)) (.int i) H (.int (-i)) := ru_neg
theorem at0 {α : Type} {x : α} {xs : List α} : atI (x :: xs) 0 = some x := by
  unfold atI ixN
  rw [if_pos (by decide), if_pos (by show (0 : Int) < ((xs.length + 1 : Nat) : Int); omega)]
  rfl
theorem at1 {α : Type} {x y : α} {xs : List α} : atI (x :: y :: xs) 1 = some y := by
  unfold atI ixN
  rw [if_pos (by decide), if_pos (by show (1 : Int) < ((xs.length + 1 + 1 : Nat) : Int); omega)]
  rfl
theorem at2 {α : Type} {x y z : α} {xs : List α} : atI (x :: y :: z :: xs) 2 = some z := by
  unfold atI ixN
  rw [if_pos (by decide), if_pos (by show (2 : Int) < ((xs.length + 1 + 1 + 1 : Nat) : Int); omega)]
  rfl
theorem at3 {α : Type} {x y z w : α} {xs : List α} : atI (x :: y :: z :: w :: xs) 3 = some w := by
  unfold atI ixN
  rw [if_pos (by decide), if_pos (by show (3 : Int) < ((xs.length + 1 + 1 + 1 + 1 : Nat) : Int); omega)]
  rfl
end
end K51
set_option Elab.async false
set_option linter.all false
set_option maxRecDepth 100000
set_option maxHeartbeats 4000000
namespace K51
open PySem PySem.Spec PyProof.Rows L2 Evl
/-! ### match over a text -/
structure PM (X : Cx) (cs : List MatchCase) (t : V → TS) : Prop where
  run : ∀ (pins : List (Addr × Obj)) (s : Shared) (σ : L2.St) (H : Hp) (D : Ends) (v : V) (u : Value) (first : Bool), Inv X pins σ H s → RelV v u → t v D σ H → wpAny (model X.prog X.w) X.A (matchCases cs X.env u first) (SP X pins D) X.xe s
def tMNil : V → TS := fun _ D σ H => D.nx σ H
def tMCase (x : Str) (tb : TS) (tr : V → TS) : V → TS := fun v D σ H => ∃ z, v = .str z ∧ if z = x then tb D σ H else tr v D σ H
def tMatch (te : TE) (t : V → TS) : TS := fun D σ H => te σ H fun v H1 => t v D σ H1
section
variable {X : Cx}
theorem pm_nil : PM X [] tMNil := ⟨fun pins s σ H D v u first I r h => wpAny_matchCases_nil ⟨σ, H, I, h⟩⟩
theorem pm_cons {x : Str} {j : Nat} {p pos : Pos} {body : List Stmt} {rest : List MatchCase} {tb : TS} {tr : V → TS} (hb : PSs X body tb) (hr : PM X rest tr) :
    PM X (⟨.MatchValue (.Constant (.str x) j p) pos, none, body⟩ :: rest) (tMCase x tb tr) := by
  refine ⟨fun pins s σ H D v u first I r h => ?_⟩
  obtain ⟨z, rfl, h⟩ := h
  obtain ⟨t, rfl⟩ := (show ∃ t, u = Value.str z t from r)
  refine wpAny_matchCases_cons (wpAny_matchPattern_Value ?_)
  refine Calls.Constant_str ?_
  refine thn (op_eq (X := X) pins _ σ H (.str z) (.str x) _ _ (fun v H' => v = .bl (decide (z = x)) ∧ H' = H) (I.tok _) ⟨t, rfl⟩ ⟨_, rfl⟩ ⟨rfl, by
    refine ⟨?_, rfl⟩
    congr 1
    by_cases e : z = x
    · rw [decide_eq_true e, e]
      exact decide_eq_true rfl
    · rw [decide_eq_false e]
      exact decide_eq_false fun q => e (by injection q)⟩) fun w s2 ⟨v2, H2, I2, r2, e1, e2⟩ => ?_
  subst e1 e2
  obtain rfl : w = Value.bool (decide (z = x)) := r2
  refine wpAny_truthy_bool ?_
  by_cases e : z = x
  · rw [if_pos e] at h
    rw [decide_eq_true e, if_pos rfl]
    refine wpAny_assignInOrder_none ?_
    exact hb.run pins s2 σ H2 D I2 h
  · rw [if_neg e] at h
    rw [decide_eq_false e, if_neg Bool.false_ne_true]
    exact hr.run pins s2 σ H2 D (.str z) _ false I2 ⟨t, rfl⟩ h
theorem ps_match {e : Expr} {cs : List MatchCase} {pos : Pos} {te : TE} {t : V → TS} (he : PE X e te) (hc : PM X cs t) : PS X (.Match e cs pos) (tMatch te t) :=
  ⟨fun pins s σ H D I h => wpAny_Match (thn (he.run pins s σ H _ I h) fun u s1 ⟨v, H1, I1, r, q⟩ => hc.run pins s1 σ H1 D v u true I1 r q)⟩
end
/-- the text at hand is known -/
theorem s_match {te : TE} {t : V → TS} {D : Ends} {σ : L2.St} {H : Hp} {v : V} (h : Ev te σ H v) (k : ∀ H1, Ex H H1 → t v D σ H1) : tMatch te t D σ H := h H (Ex.refl H) _ fun H1 e => k H1 e
theorem q_match {te : TE} {t : V → TS} {tz : TS} {D : Ends} {σ : L2.St} {H : Hp} {v : V} (h : Ev te σ H v) (k : ∀ H1, Ex H H1 → t v { D with nx := tz D } σ H1) : tSeq (tMatch te t) tz D σ H := h H (Ex.refl H) _ fun H1 e => k H1 e
theorem m_yes {x : Str} {tb : TS} {tr : V → TS} {D : Ends} {σ : L2.St} {H : Hp} (h : tb D σ H) : tMCase x tb tr (.str x) D σ H := ⟨x, rfl, by rw [if_pos rfl]; exact h⟩
theorem m_no {x z : Str} {tb : TS} {tr : V → TS} {D : Ends} {σ : L2.St} {H : Hp} (hn : ¬ z = x) (h : tr (.str z) D σ H) : tMCase x tb tr (.str z) D σ H := ⟨z, rfl, by rw [if_neg hn]; exact h⟩
theorem m_end {v : V} {D : Ends} {σ : L2.St} {H : Hp} (h : D.nx σ H) : tMNil v D σ H := h
end K51
set_option Elab.async false
set_option linter.all false
set_option maxRecDepth 100000
set_option maxHeartbeats 4000000
namespace K51
open PySem PySem.Spec PyProof.Rows L2 Evl
/-! ### how the data lie -/
theorem paired_get {α β : Type} {F : α → β → Prop} : ∀ {xs : List α} {ys : List β} {i : Nat} {y : β}, Paired F xs ys → ys[i]? = some y → ∃ x, xs[i]? = some x ∧ F x y
  | _, _, _, _, .nil, h => by simp at h
  | _, _, 0, _, .cons r _, h => by
    simp at h
    subst h
    exact ⟨_, rfl, r⟩
  | _, _, i + 1, y, .cons _ t, h => by
    obtain ⟨x, h1, h2⟩ := paired_get (i := i) (y := y) t (by simpa using h)
    exact ⟨x, by simpa using h1, h2⟩
theorem paired_len {α β : Type} {F : α → β → Prop} {xs : List α} {ys : List β} (h : Paired F xs ys) : xs.length = ys.length := PySem.Paired.length h
/-- a glue's four numbers at a value -/
abbrev GP := Hp → V → Int → Int → Int → Int → Prop
structure GMono (G : GP) : Prop where
  to : ∀ (H H' : Hp) (v : V) (n s o k : Int), Ex H H' → G H v n s o k → G H' v n s o k
def It.tag : It → Str
  | .box _ => "box"
  | .glue _ _ _ _ => "glue"
  | .part _ _ _ => "part"
  | .pen _ => "penalty"
/-- an item of a row -/
inductive ItAt (G : GP) (H : Hp) : V → It → Prop
  | box {a : Addr} {w : Int} : H a = some (.tup [.str "box", .int w]) → ItAt G H (.ref a) (.box w)
  | glue {a : Addr} {v : V} {n s o k : Int} : H a = some (.tup [.str "glue", v]) → G H v n s o k → ItAt G H (.ref a) (.glue n s o k)
  | part {a : Addr} {x y z : Int} : H a = some (.tup [.str "part", .int x, .int y, .int z]) → ItAt G H (.ref a) (.part x y z)
  | pen {a : Addr} {p : Int} : H a = some (.tup [.str "penalty", .int p]) → ItAt G H (.ref a) (.pen p)
theorem ItAt.mono {G : GP} (g : GMono G) {H H' : Hp} {v : V} {it : It} (e : Ex H H') (h : ItAt G H v it) : ItAt G H' v it := by
  cases h with
  | box h => exact .box (e _ _ h)
  | glue h q => exact .glue (e _ _ h) (g.to _ _ _ _ _ _ _ e q)
  | part h => exact .part (e _ _ h)
  | pen h => exact .pen (e _ _ h)
theorem ItAt.tag {G : GP} {H : Hp} {v : V} {it : It} (h : ItAt G H v it) : ∃ a xs, v = .ref a ∧ H a = some (.tup (.str it.tag :: xs)) := by
  cases h with
  | box h => exact ⟨_, _, rfl, h⟩
  | glue h q => exact ⟨_, _, rfl, h⟩
  | part h => exact ⟨_, _, rfl, h⟩
  | pen h => exact ⟨_, _, rfl, h⟩
/-- a glue of the class with slots -/
def GSlot (cG : Addr) : GP := fun H v n s o k => ∃ g dx, v = .ref g ∧ H g = some (SlX.SlO g cG dx [some (.int n), some (.int k), some (.int 0), some (.int s), some (.int o)]) ∧ H dx = some (.xd [])
theorem gSlot_mono {cG : Addr} : GMono (GSlot cG) := ⟨fun _ _ _ _ _ _ _ e ⟨g, dx, h1, h2, h3⟩ => ⟨g, dx, h1, e _ _ h2, e _ _ h3⟩⟩
/-- a plain glue -/
def GTup : GP := fun H v n s o k => ∃ g, v = .ref g ∧ H g = some (.tup [.int n, .int s, .int o, .int k])
theorem gTup_mono : GMono GTup := ⟨fun _ _ _ _ _ _ _ e ⟨g, h1, h2⟩ => ⟨g, h1, e _ _ h2⟩⟩
abbrev ItsAt (G : GP) (H : Hp) : List V → List It → Prop := Paired (ItAt G H)
theorem ItsAt.mono {G : GP} (g : GMono G) {H H' : Hp} {vs : List V} {its : List It} (e : Ex H H') (h : ItsAt G H vs its) : ItsAt G H' vs its := Paired.mapP h fun _ _ q => q.mono g e
/-- the row of the program: a tuple -/
def RowAt (cG : Addr) (H : Hp) (v : V) (r : Row) : Prop := ∃ a vs, v = .ref a ∧ H a = some (.tup vs) ∧ ItsAt (GSlot cG) H vs r
/-- the row of the law: a list -/
def PlainAt (H : Hp) (v : V) (r : Row) : Prop := ∃ a vs, v = .ref a ∧ H a = some (.lst vs) ∧ ItsAt GTup H vs r
theorem RowAt.mono {cG : Addr} {H H' : Hp} {v : V} {r : Row} (e : Ex H H') (h : RowAt cG H v r) : RowAt cG H' v r := by
  obtain ⟨a, vs, h1, h2, h3⟩ := h
  exact ⟨a, vs, h1, e _ _ h2, h3.mono gSlot_mono e⟩
theorem PlainAt.mono {H H' : Hp} {v : V} {r : Row} (e : Ex H H') (h : PlainAt H v r) : PlainAt H' v r := by
  obtain ⟨a, vs, h1, h2, h3⟩ := h
  exact ⟨a, vs, h1, e _ _ h2, h3.mono gTup_mono e⟩
/-- a tuple, a list at a value -/
def TupAt (H : Hp) (v : V) (xs : List V) : Prop := ∃ a, v = .ref a ∧ H a = some (.tup xs)
def LstAt (H : Hp) (v : V) (xs : List V) : Prop := ∃ a, v = .ref a ∧ H a = some (.lst xs)
theorem TupAt.mono {H H' : Hp} {v : V} {xs : List V} (e : Ex H H') (h : TupAt H v xs) : TupAt H' v xs := by
  obtain ⟨a, h1, h2⟩ := h
  exact ⟨a, h1, e _ _ h2⟩
theorem LstAt.mono {H H' : Hp} {v : V} {xs : List V} (e : Ex H H') (h : LstAt H v xs) : LstAt H' v xs := by
  obtain ⟨a, h1, h2⟩ := h
  exact ⟨a, h1, e _ _ h2⟩
def natsV (l : List Nat) : List V := l.map fun (i : Nat) => V.int (i : Int)
def costV (c : Cost) : List V := [.int c.1, .int c.2.1, .int c.2.2]
/-- a list of things that R tells of -/
def LstR {α : Type} (R : Hp → V → α → Prop) (H : Hp) (v : V) (ys : List α) : Prop := ∃ a acc, v = .ref a ∧ H a = some (.lst acc) ∧ Paired (R H) acc ys
/-- all but lists stay -/
def ExI (H H' : Hp) : Prop := ∀ a o, H a = some o → (∀ xs, o ≠ .lst xs) → H' a = some o
theorem ExI.of {H H' : Hp} (e : Ex H H') : ExI H H' := fun a o h _ => e a o h
theorem ExI.trans {H H1 H2 : Hp} (a : ExI H H1) (b : ExI H1 H2) : ExI H H2 := fun c o h n => b c o (a c o h n) n
theorem ExI.lst {H : Hp} {l : Addr} {xs ys : List V} (h : H l = some (.lst xs)) : ExI H (upd H l (.lst ys)) := fun a o e n => by
  have ne : a ≠ l := fun z => by
    rw [z, h] at e
    exact n xs (Option.some.inj e).symm
  rw [upd_ne ne]
  exact e
def RMono {α : Type} (R : Hp → V → α → Prop) : Prop := ∀ H H' v y, ExI H H' → R H v y → R H' v y
theorem TupAt.monoI {H H' : Hp} {v : V} {xs : List V} (e : ExI H H') (h : TupAt H v xs) : TupAt H' v xs := by
  obtain ⟨a, h1, h2⟩ := h
  exact ⟨a, h1, e _ _ h2 fun _ z => by cases z⟩
theorem LstR.mono {α : Type} {R : Hp → V → α → Prop} (m : RMono R) {H H' : Hp} {v : V} {ys : List α} (e : Ex H H') (h : LstR R H v ys) : LstR R H' v ys := by
  obtain ⟨a, acc, h1, h2, h3⟩ := h
  exact ⟨a, acc, h1, e _ _ h2, Paired.mapP h3 fun _ _ q => m _ _ _ _ (.of e) q⟩
theorem paired_fn {α : Type} {f : α → V} : ∀ {acc : List V} {ys : List α}, Paired (fun v y => v = f y) acc ys → acc = ys.map f
  | _, _, .nil => rfl
  | _, _, .cons h t => by rw [List.map_cons, h, paired_fn t]
theorem fn_paired {α : Type} {f : α → V} : ∀ (ys : List α), Paired (fun v y => v = f y) (ys.map f) ys
  | [] => .nil
  | y :: ys => .cons rfl (fn_paired ys)
theorem at_some {r : Row} {i : Nat} (h : i < r.length) : r[i]? = some (at_ r i) := by
  unfold at_
  rw [List.getD_eq_getElem?_getD, List.getElem?_eq_getElem h, Option.getD_some]
/-- the rules' fields -/
def ruF (wa : Addr) (u : Ru) : List (Str × V) := [("own_widths", .ref wa), ("own_tolerance", .int u.tol), ("own_line", .int u.line), ("own_hyphen", .int u.hyp), ("own_unlike", .int u.unl), ("own_double", .int u.dbl), ("own_last", .int u.last), ("own_room", .int u.room), ("own_looseness", .int u.loose)]
def RulesAt (cR : Addr) (H : Hp) (v : V) (u : Ru) : Prop := ∃ a dx wa, v = .ref a ∧ H a = some (.ins cR dx (ruF wa u)) ∧ H wa = some (.tup (u.ws.map V.int))
theorem RulesAt.mono {cR : Addr} {H H' : Hp} {v : V} {u : Ru} (e : Ex H H') (h : RulesAt cR H v u) : RulesAt cR H' v u := by
  obtain ⟨a, dx, wa, h1, h2, h3⟩ := h
  exact ⟨a, dx, wa, h1, e _ _ h2, e _ _ h3⟩
theorem ruF_wid {wa : Addr} {u : Ru} : (ruF wa u).lookup ("own_widths" : Str) = some (.ref wa) := by rfl
theorem ruF_tol {wa : Addr} {u : Ru} : (ruF wa u).lookup ("own_tolerance" : Str) = some (.int u.tol) := by rfl
theorem ruF_line {wa : Addr} {u : Ru} : (ruF wa u).lookup ("own_line" : Str) = some (.int u.line) := by rfl
theorem ruF_hyp {wa : Addr} {u : Ru} : (ruF wa u).lookup ("own_hyphen" : Str) = some (.int u.hyp) := by rfl
theorem ruF_unl {wa : Addr} {u : Ru} : (ruF wa u).lookup ("own_unlike" : Str) = some (.int u.unl) := by rfl
theorem ruF_dbl {wa : Addr} {u : Ru} : (ruF wa u).lookup ("own_double" : Str) = some (.int u.dbl) := by rfl
theorem ruF_last {wa : Addr} {u : Ru} : (ruF wa u).lookup ("own_last" : Str) = some (.int u.last) := by rfl
theorem ruF_room {wa : Addr} {u : Ru} : (ruF wa u).lookup ("own_room" : Str) = some (.int u.room) := by rfl
theorem ruF_loose {wa : Addr} {u : Ru} : (ruF wa u).lookup ("own_looseness" : Str) = some (.int u.loose) := by rfl
/-- what is known of the class of the rules -/
structure RC (K : PySem.W.Frag) (cR : Addr) : Prop where
  cl : Cls K cR
  nW : NoAttr K cR "own_widths"
  nT : NoAttr K cR "own_tolerance"
  nL : NoAttr K cR "own_line"
  nH : NoAttr K cR "own_hyphen"
  nU : NoAttr K cR "own_unlike"
  nD : NoAttr K cR "own_double"
  nA : NoAttr K cR "own_last"
  nR : NoAttr K cR "own_room"
  nO : NoAttr K cR "own_looseness"
theorem ev_fld {K : PySem.W.Frag} {σ : L2.St} {H : Hp} {ta : TE} {f : Str} {a C dx : Addr} {fs : List (Str × V)} {v : V} (h : Ev ta σ H (.ref a)) (ho : H a = some (.ins C dx fs)) (hc : Cls K C) (hn : NoAttr K C f) (hl : fs.lookup f = some v) : Ev (tFld K ta f) σ H v := fun H1 e Q q =>
  h H1 e _ fun H2 e2 => ⟨a, C, dx, fs, v, rfl, e2 _ _ (e _ _ ho), hc, hn, hl, q H2 e2⟩
theorem ev_ixT {K : PySem.W.Frag} {σ : L2.St} {H : Hp} {ta tb : TE} {p : Addr} {xs : List V} {i : Int} {v : V} (ha : Ev ta σ H (.ref p)) (hb : Ev tb σ H (.int i)) (h : H p = some (.tup xs)) (hi : atI xs i = some v) : Ev (tOp (rIxT K) ta tb) σ H v := ev_op ha hb (rv_ixT (st_of h) hi)
theorem ev_ixL {K : PySem.W.Frag} {σ : L2.St} {H : Hp} {ta tb : TE} {p : Addr} {xs : List V} {i : Int} {v : V} (ha : Ev ta σ H (.ref p)) (hb : Ev tb σ H (.int i)) (h : H p = some (.lst xs)) (hi : atI xs i = some v) : Ev (tOp (rIxL K) ta tb) σ H v := ev_op ha hb (rv_ixL (sq_of h) hi)
end K51
namespace K51
open PySem PySem.Spec PyProof.Rows L2 Evl
/-! ### the class of glues -/
/-- a getter's promise: the i-th slot -/
def sp_get (cG : Addr) (i : Nat) : Sp := fun vs H Q _ => ∃ (a dx : Addr) (us : List (Option V)) (v : V), vs = [.ref a] ∧ SlX.Slt H a cG dx us ∧ us[i]? = some (some v) ∧ Q v H
/-- the name f of the class is a property that gives the i-th slot -/
def GProp (P : Program) (w : World) (K : PySem.W.Frag) (mg : Str → Option Value) (base : Heap) (cG : Addr) (f : Str) (i : Nat) : Prop :=
  ∃ p g, PySem.W.findIn K (.ref cG) f = some (some (.ref p)) ∧ PySem.W.specialIn K (.ref p) "__get__" = some (some (.builtin "property.__get__")) ∧ PySem.W.takesIn K (.ref p) = some true ∧ (∃ rest, PySem.W.recIn K p "property" = some (.ref g :: rest)) ∧ FnR P w K mg base CX0 1 g (sp_get cG i)
structure GC (P : Program) (w : World) (K : PySem.W.Frag) (mg : Str → Option Value) (base : Heap) (cG : Addr) : Prop where
  cl : SlX.SCls K cG
  isi : SlX.SIsi K cG
  natural : GProp P w K mg base cG "natural" 0
  shrink : GProp P w K mg base cG "shrink" 1
  shrink_order : GProp P w K mg base cG "shrink_order" 2
  stretch : GProp P w K mg base cG "stretch" 3
  stretch_order : GProp P w K mg base cG "stretch_order" 4
  own : PySem.W.kitOne K (.ref cG) (.ref cG) = some true
theorem pe_gprop {X : Cx} {cG : Addr} {f : Str} {i : Nat} {e : Expr} {pos : Pos} {ta : TE} (G : GProp X.prog X.w X.K X.mg X.base cG f i) (c : SlX.SCls X.K cG) (hr : Room 2 X.A) (he : PE X e ta) (hb : attributeBase e f X.env (eval e X.env) = eval e X.env := by rfl) : PE X (.Attribute e f pos) (SlX.tPropSl cG (sp_get cG i) E0 ta) := by
  obtain ⟨p, g, h1, h2, h3, h4, F⟩ := G
  exact SlX.pe_propSl he c h1 h2 h3 h4 F hr (fun _ _ _ _ h => h.elim) hb
theorem pe_glue_natural {X : Cx} {cG : Addr} {e : Expr} {pos : Pos} {ta : TE} (G : GC X.prog X.w X.K X.mg X.base cG) (hr : Room 2 X.A) (he : PE X e ta) (hb : attributeBase e ("natural" : Str) X.env (eval e X.env) = eval e X.env := by rfl) : PE X (.Attribute e ("natural" : Str) pos) (SlX.tPropSl cG (sp_get cG 0) E0 ta) := pe_gprop G.natural G.cl hr he hb
theorem pe_glue_shrink {X : Cx} {cG : Addr} {e : Expr} {pos : Pos} {ta : TE} (G : GC X.prog X.w X.K X.mg X.base cG) (hr : Room 2 X.A) (he : PE X e ta) (hb : attributeBase e ("shrink" : Str) X.env (eval e X.env) = eval e X.env := by rfl) : PE X (.Attribute e ("shrink" : Str) pos) (SlX.tPropSl cG (sp_get cG 1) E0 ta) := pe_gprop G.shrink G.cl hr he hb
theorem pe_glue_shrink_order {X : Cx} {cG : Addr} {e : Expr} {pos : Pos} {ta : TE} (G : GC X.prog X.w X.K X.mg X.base cG) (hr : Room 2 X.A) (he : PE X e ta) (hb : attributeBase e ("shrink_order" : Str) X.env (eval e X.env) = eval e X.env := by rfl) : PE X (.Attribute e ("shrink_order" : Str) pos) (SlX.tPropSl cG (sp_get cG 2) E0 ta) := pe_gprop G.shrink_order G.cl hr he hb
theorem pe_glue_stretch {X : Cx} {cG : Addr} {e : Expr} {pos : Pos} {ta : TE} (G : GC X.prog X.w X.K X.mg X.base cG) (hr : Room 2 X.A) (he : PE X e ta) (hb : attributeBase e ("stretch" : Str) X.env (eval e X.env) = eval e X.env := by rfl) : PE X (.Attribute e ("stretch" : Str) pos) (SlX.tPropSl cG (sp_get cG 3) E0 ta) := pe_gprop G.stretch G.cl hr he hb
theorem pe_glue_stretch_order {X : Cx} {cG : Addr} {e : Expr} {pos : Pos} {ta : TE} (G : GC X.prog X.w X.K X.mg X.base cG) (hr : Room 2 X.A) (he : PE X e ta) (hb : attributeBase e ("stretch_order" : Str) X.env (eval e X.env) = eval e X.env := by rfl) : PE X (.Attribute e ("stretch_order" : Str) pos) (SlX.tPropSl cG (sp_get cG 4) E0 ta) := pe_gprop G.stretch_order G.cl hr he hb
theorem ev_gprop {cG : Addr} {i : Nat} {σ : L2.St} {H : Hp} {ta : TE} {v z : V} {n s o k : Int} (h : Ev ta σ H v) (hg : GSlot cG H v n s o k) (hi : ([some (.int n), some (.int k), some (.int 0), some (.int s), some (.int o)] : List (Option V))[i]? = some (some z)) : Ev (SlX.tPropSl cG (sp_get cG i) E0 ta) σ H z := fun H1 e Q q =>
  h H1 e _ fun H2 e2 => by
    obtain ⟨g, dx, rfl, h1, h2⟩ := hg
    have sl : SlX.Slt H2 g cG dx [some (.int n), some (.int k), some (.int 0), some (.int s), some (.int o)] := .inr ⟨e2 _ _ (e _ _ h1), e2 _ _ (e _ _ h2)⟩
    exact ⟨g, dx, _, rfl, sl, g, dx, _, z, rfl, sl, hi, q H2 e2⟩
/-- isinstance(x, Glue) -/
theorem ev_isiG {K : PySem.W.Frag} {cG : Addr} {σ : L2.St} {H : Hp} {ta tb : TE} {v : V} {n s o k : Int} (hc : SlX.SCls K cG) (hi : SlX.SIsi K cG) (ho : PySem.W.kitOne K (.ref cG) (.ref cG) = some true) (ha : Ev ta σ H v) (hb : Ev tb σ H (.ref cG)) (hg : GSlot cG H v n s o k) : Ev (tCB (SlX.rIsiSl K (.ref cG)) (tCons ta (tCons tb tNil))) σ H (.bl true) := fun H1 e Q q =>
  ha H1 e _ fun H2 e2 => hb H2 (e.trans e2) _ fun H3 e3 => by
    obtain ⟨g, dx, rfl, h1, h2⟩ := hg
    exact ⟨g, cG, dx, _, .ref cG, true, rfl, rfl, fun w h => h, .inr ⟨e3 _ _ (e2 _ _ (e _ _ h1)), e3 _ _ (e2 _ _ (e _ _ h2))⟩, hc, hi, ho, q H3 (e2.trans e3)⟩
theorem kz {Q : VK} {H : Hp} {v : V} (k : ∀ H2, Ex H H2 → Q v H2) {z : V} {H2 : Hp} (e : z = v) (h : Ex H H2) : Q z H2 := by
  rw [e]
  exact k H2 h
end K51
set_option maxRecDepth 100000
set_option maxHeartbeats 4000000
set_option linter.all false
namespace K51
theorem cutAt_hit {α : Type} {f : α → Bool} : ∀ {l1 : List α} {x : α} {l2 : List α}, (∀ y ∈ l1, f y = false) → f x = true → cutAt f (l1 ++ x :: l2) = l1 ++ [x]
  | [], x, l2, _, hx => by
    show x :: (if f x then [] else cutAt f l2) = [x]
    rw [hx, if_pos rfl]
  | y :: l1, x, l2, h, hx => by
    show y :: (if f y then [] else cutAt f (l1 ++ x :: l2)) = y :: (l1 ++ [x])
    rw [h y List.mem_cons_self, if_neg Bool.false_ne_true, cutAt_hit (fun z hz => h z (List.mem_cons_of_mem _ hz)) hx]
theorem cutAt_none {α : Type} {f : α → Bool} : ∀ {l : List α}, (∀ y ∈ l, f y = false) → cutAt f l = l
  | [], _ => rfl
  | y :: l, h => by
    show y :: (if f y then [] else cutAt f l) = y :: l
    rw [h y List.mem_cons_self, if_neg Bool.false_ne_true, cutAt_none fun z hz => h z (List.mem_cons_of_mem _ hz)]
def pre (r : Row) (hyp : Int) (lo i : Nat) : List Nat := (List.range' lo i).filter (isPlace r hyp)
theorem pre_succ (r : Row) (hyp : Int) (lo i : Nat) : pre r hyp lo (i + 1) = pre r hyp lo i ++ (if isPlace r hyp (lo + i) then [lo + i] else []) := by
  unfold pre
  rw [List.range'_1_concat, List.filter_append]
  congr 1
  rw [List.filter_cons, List.filter_nil]
theorem from_eq (r : Row) (hyp : Int) (lo : Nat) (h : lo ≤ r.length) : ((places r hyp).filter fun i => decide (lo ≤ i)) = pre r hyp lo (r.length - lo) := by
  unfold places pre
  rw [List.filter_filter]
  have e : List.range r.length = List.range' 0 lo ++ List.range' lo (r.length - lo) := by
    have := List.range'_append_1 (s := 0) (m := lo) (n := r.length - lo)
    rw [Nat.zero_add] at this
    rw [this, List.range_eq_range']
    congr 1
    omega
  rw [e, List.filter_append]
  have e1 : (List.range' 0 lo).filter (fun a => decide (lo ≤ a) && isPlace r hyp a) = [] := by
    rw [List.filter_eq_nil_iff]
    intro a ha
    rw [List.mem_range'_1] at ha
    rw [decide_eq_false (by omega)]
    simp
  have e2 : (List.range' lo (r.length - lo)).filter (fun a => decide (lo ≤ a) && isPlace r hyp a) = (List.range' lo (r.length - lo)).filter (isPlace r hyp) := by
    refine List.filter_congr fun a ha => ?_
    rw [List.mem_range'_1] at ha
    rw [decide_eq_true (by omega), Bool.true_and]
  rw [e1, e2, List.nil_append]
theorem forced_place {r : Row} {hyp : Int} {i : Nat} (h : (at_ r i).forced = true) : isPlace r hyp i = true := by
  unfold isPlace
  cases e : at_ r i with
  | pen p =>
    rw [e] at h
    have h2 : p = -10000 := of_decide_eq_true h
    simp [h2]
  | _ =>
    rw [e] at h
    cases h
/-- the scan meets a forced item -/
theorem nexts_hit {r : Row} {hyp p : Int} {i : Nat} (hi : startOf r p + i < r.length) (hn : ∀ j, j < i → (at_ r (startOf r p + j)).forced = false) (hf : (at_ r (startOf r p + i)).forced = true) : nexts r hyp p = pre r hyp (startOf r p) (i + 1) := by
  unfold nexts
  rw [from_eq r hyp _ (by omega)]
  have e : List.range' (startOf r p) (r.length - startOf r p) = List.range' (startOf r p) i ++ (startOf r p + i) :: List.range' (startOf r p + i + 1) (r.length - startOf r p - i - 1) := by
    have h1 := List.range'_append_1 (s := startOf r p) (m := i) (n := r.length - startOf r p - i)
    have h2 : r.length - startOf r p = i + (r.length - startOf r p - i) := by omega
    have h3 : r.length - startOf r p - i = (r.length - startOf r p - i - 1) + 1 := by omega
    rw [h2, ← h1]
    congr 1
    rw [h3, List.range'_succ]
    congr 2
    omega
  rw [pre_succ]
  unfold pre
  rw [e, List.filter_append, List.filter_cons, if_pos (forced_place hf), forced_place hf, if_pos rfl]
  refine cutAt_hit (fun y hy => ?_) hf
  rw [List.mem_filter, List.mem_range'_1] at hy
  have := hn (y - startOf r p) (by omega)
  rwa [show startOf r p + (y - startOf r p) = y from by omega] at this
theorem nexts_all {r : Row} {hyp p : Int} (h : startOf r p ≤ r.length) (hn : ∀ j, startOf r p + j < r.length → (at_ r (startOf r p + j)).forced = false) : nexts r hyp p = pre r hyp (startOf r p) (r.length - startOf r p) := by
  unfold nexts
  rw [from_eq r hyp _ h]
  refine cutAt_none fun y hy => ?_
  unfold pre at hy
  rw [List.mem_filter, List.mem_range'_1] at hy
  have := hn (y - startOf r p) (by omega)
  rwa [show startOf r p + (y - startOf r p) = y from by omega] at this
theorem firstStay_lt (r : Row) (j : Nat) (h : 0 < r.length) : firstStay r j < r.length := by
  fun_induction firstStay r j with
  | case1 j h1 h2 => exact h1
  | case2 j h1 h2 ih => exact ih
  | case3 j h1 => omega
theorem firstStay_next {r : Row} {j : Nat} (hj : j < r.length) (h1 : (at_ r j).stays = false) (h2 : (at_ r j).forced = false) : firstStay r j = firstStay r (j + 1) := by
  conv => lhs; unfold firstStay
  rw [if_pos hj, h1, h2]
  rfl
theorem firstStay_here {r : Row} {j : Nat} (hj : j < r.length) (h : ((at_ r j).stays || (at_ r j).forced) = true) : firstStay r j = j := by
  unfold firstStay
  rw [if_pos hj, if_pos h]
theorem startOf_le {r : Row} {p : Int} (hr : 0 < r.length) (h : Pl r p) : startOf r p < r.length := by
  unfold startOf
  split
  · exact hr
  · rcases h with h | h
    · omega
    · split
      · omega
      · exact firstStay_lt r _ hr
/-- a row ends by a forced item -/
def RowOk (r : Row) : Prop := 0 < r.length ∧ (at_ r (r.length - 1)).forced = true
/-! ### sums -/
def It.isGlue : It → Bool
  | .glue _ _ _ _ => true
  | _ => false
def It.strR : It → Int
  | .glue _ s _ _ => s
  | _ => 0
def It.ord : It → Int
  | .glue _ _ o _ => o
  | _ => 0
theorem sum_str (o : Int) : ∀ l : List It, (((l.filter It.isGlue).filter fun x => decide (x.ord = o)).map It.strR).sum = (l.map (It.str o)).sum
  | [] => rfl
  | x :: l => by
    have ih := sum_str o l
    rw [List.map_cons, List.sum_cons, ← ih]
    cases x with
    | glue n s o' k =>
      rw [List.filter_cons, if_pos (show (It.glue n s o' k).isGlue = true from rfl), List.filter_cons]
      show (List.map It.strR (if decide (o' = o) = true then _ else _)).sum = (if o' = o then s else 0) + _
      by_cases e : o' = o
      · rw [decide_eq_true e, if_pos rfl, if_pos e, List.map_cons, List.sum_cons]
        rfl
      · rw [decide_eq_false e, if_neg Bool.false_ne_true, if_neg e, Int.zero_add]
    | box w =>
      rw [List.filter_cons, if_neg (by exact Bool.false_ne_true)]
      show _ = 0 + _
      rw [Int.zero_add]
    | part a b c =>
      rw [List.filter_cons, if_neg (by exact Bool.false_ne_true)]
      show _ = 0 + _
      rw [Int.zero_add]
    | pen p =>
      rw [List.filter_cons, if_neg (by exact Bool.false_ne_true)]
      show _ = 0 + _
      rw [Int.zero_add]
theorem sum_shr : ∀ l : List It, ((l.filter It.isGlue).map It.shr).sum = (l.map It.shr).sum
  | [] => rfl
  | x :: l => by
    have ih := sum_shr l
    rw [List.map_cons, List.sum_cons, ← ih]
    cases x with
    | glue n s o' k =>
      rw [List.filter_cons, if_pos (show (It.glue n s o' k).isGlue = true from rfl), List.map_cons, List.sum_cons]
    | box w =>
      rw [List.filter_cons, if_neg (by exact Bool.false_ne_true)]
      show _ = 0 + _
      rw [Int.zero_add]
    | part a b c =>
      rw [List.filter_cons, if_neg (by exact Bool.false_ne_true)]
      show _ = 0 + _
      rw [Int.zero_add]
    | pen p =>
      rw [List.filter_cons, if_neg (by exact Bool.false_ne_true)]
      show _ = 0 + _
      rw [Int.zero_add]
theorem sum_bd {α : Type} (f : α → Int) (hi : Int) (h0 : 0 ≤ hi) : ∀ l : List α, (∀ x ∈ l, 0 ≤ f x ∧ f x ≤ hi) → 0 ≤ (l.map f).sum ∧ (l.map f).sum ≤ hi * (l.length : Int)
  | [], _ => ⟨Int.le_refl _, by simp⟩
  | x :: l, h => by
    obtain ⟨a, b⟩ := sum_bd f hi h0 l fun y hy => h y (List.mem_cons_of_mem _ hy)
    obtain ⟨c, d⟩ := h x List.mem_cons_self
    rw [List.map_cons, List.sum_cons, List.length_cons]
    constructor
    · omega
    · have : hi * ((l.length + 1 : Nat) : Int) = hi * (l.length : Int) + hi := by
        rw [Int.natCast_add, Int.mul_add]
        simp
      omega
/-- an item within bounds -/
def It.Bd : It → Prop
  | .box w => 0 ≤ w ∧ w ≤ 100
  | .glue n s o k => (0 ≤ n ∧ n ≤ 100) ∧ (0 ≤ s ∧ s ≤ 50) ∧ (0 ≤ o ∧ o ≤ 3) ∧ (0 ≤ k ∧ k ≤ 50)
  | .part a b c => (0 ≤ a ∧ a ≤ 100) ∧ (0 ≤ b ∧ b ≤ 100) ∧ (0 ≤ c ∧ c ≤ 100)
  | .pen p => -10000 ≤ p ∧ p ≤ 10000
structure Bd (r : Row) (u : Ru) : Prop where
  ok : RowOk r
  len : r.length ≤ 12
  two : 2 ≤ r.length
  its : ∀ x ∈ r, x.Bd
  wl : 1 ≤ u.ws.length ∧ u.ws.length ≤ 40
  ws : ∀ x ∈ u.ws, 0 ≤ x ∧ x ≤ 1000
  tol : 0 ≤ u.tol ∧ u.tol ≤ 10000
  line : 0 ≤ u.line ∧ u.line ≤ 10000
  hyp : -9999 ≤ u.hyp ∧ u.hyp ≤ 10000
  unl : 0 ≤ u.unl ∧ u.unl ≤ 1000000
  dbl : 0 ≤ u.dbl ∧ u.dbl ≤ 1000000
  last : 0 ≤ u.last ∧ u.last ≤ 1000000
  room : 0 ≤ u.room ∧ u.room ≤ 100
  loose : -100 ≤ u.loose ∧ u.loose ≤ 100
theorem mem_seg {r : Row} {a b : Nat} {x : It} (h : x ∈ seg r a b) : x ∈ r := List.mem_of_mem_drop (List.mem_of_mem_take h)
theorem seg_len (r : Row) (a b : Nat) : (seg r a b).length ≤ r.length := by
  unfold seg
  rw [List.length_take, List.length_drop]
  omega
theorem Bd.seg_bd {r : Row} {u : Ru} (h : Bd r u) (f : It → Int) (hi : Int) (h0 : 0 ≤ hi) (hf : ∀ x : It, x.Bd → 0 ≤ f x ∧ f x ≤ hi) (a b : Nat) : 0 ≤ ((seg r a b).map f).sum ∧ ((seg r a b).map f).sum ≤ hi * 12 := by
  obtain ⟨c, d⟩ := sum_bd f hi h0 (seg r a b) fun x hx => hf x (h.its x (mem_seg hx))
  have l1 := seg_len r a b
  have l2 := h.len
  have l3 : hi * ((seg r a b).length : Int) ≤ hi * 12 := Int.mul_le_mul_of_nonneg_left (by omega) h0
  exact ⟨c, by omega⟩
theorem Bd.natW {r : Row} {u : Ru} (h : Bd r u) (a b : Nat) : 0 ≤ ((seg r a b).map It.natW).sum ∧ ((seg r a b).map It.natW).sum ≤ 1200 := h.seg_bd It.natW 100 (by decide) (fun x hx => by
  cases x with
  | box w => exact hx
  | glue n s o k => exact hx.1
  | part a b c => exact hx.2.2
  | pen p => exact ⟨by exact Int.le_refl _, by exact (by decide : (0 : Int) ≤ 100)⟩) a b
theorem Bd.str {r : Row} {u : Ru} (h : Bd r u) (o : Int) (a b : Nat) : 0 ≤ ((seg r a b).map (It.str o)).sum ∧ ((seg r a b).map (It.str o)).sum ≤ 600 := h.seg_bd (It.str o) 50 (by decide) (fun x hx => by
  cases x with
  | glue n s o' k =>
    show 0 ≤ (if o' = o then s else 0) ∧ (if o' = o then s else 0) ≤ 50
    obtain ⟨_, h2, _⟩ := hx
    split <;> omega
  | _ => exact ⟨by exact Int.le_refl _, by exact (by decide : (0 : Int) ≤ 50)⟩) a b
theorem Bd.shr {r : Row} {u : Ru} (h : Bd r u) (a b : Nat) : 0 ≤ ((seg r a b).map It.shr).sum ∧ ((seg r a b).map It.shr).sum ≤ 600 := h.seg_bd It.shr 50 (by decide) (fun x hx => by
  cases x with
  | glue n s o' k => exact hx.2.2.2
  | _ => exact ⟨by exact Int.le_refl _, by exact (by decide : (0 : Int) ≤ 50)⟩) a b
theorem Bd.at_ {r : Row} {u : Ru} (h : Bd r u) (i : Nat) : (at_ r i).Bd := by
  unfold K51.at_
  rw [List.getD_eq_getElem?_getD]
  cases e : r[i]? with
  | none => exact ⟨by decide, by decide⟩
  | some x => exact h.its x (List.mem_of_getElem? e)
theorem It.Bd.ahead {x : It} (h : x.Bd) : 0 ≤ x.ahead ∧ x.ahead ≤ 100 := by
  cases x with
  | part a b c => exact h.1
  | _ => exact ⟨by exact Int.le_refl _, by exact (by decide : (0 : Int) ≤ 100)⟩
theorem It.Bd.behind {x : It} (h : x.Bd) : 0 ≤ x.behind ∧ x.behind ≤ 100 := by
  cases x with
  | part a b c => exact h.2.1
  | _ => exact ⟨by exact Int.le_refl _, by exact (by decide : (0 : Int) ≤ 100)⟩
theorem Bd.widthOf {r : Row} {u : Ru} (h : Bd r u) (n : Int) : 0 ≤ K51.widthOf u n ∧ K51.widthOf u n ≤ 1000 := by
  unfold K51.widthOf
  rw [List.getD_eq_getElem?_getD]
  cases e : u.ws[(min n (u.ws.length : Int) - 1).toNat]? with
  | none => exact ⟨by decide, by decide⟩
  | some x => exact h.ws x (List.mem_of_getElem? e)
theorem Bd.rest {r : Row} {u : Ru} (h : Bd r u) (p : Int) (e : Nat) (n : Int) : -2000 ≤ restOf r u p e n ∧ restOf r u p e n ≤ 1000 := by
  unfold restOf natOf
  have h1 := h.widthOf n
  have h2 := h.natW (startOf r p) e
  have h3 := (h.at_ p.toNat).behind
  have h4 := (h.at_ e).ahead
  split <;> omega
theorem badBy_bd {w room : Int} (h : 0 ≤ w) (h2 : 0 ≤ room) : 0 ≤ badBy w room ∧ badBy w room ≤ 10000 := by
  unfold badBy
  split
  · exact ⟨by decide, by decide⟩
  · split
    · exact ⟨by decide, by decide⟩
    · have h3 : 0 ≤ (100 * w ^ 3) / room ^ 3 := Int.ediv_nonneg (Int.mul_nonneg (by decide) (Int.pow_nonneg h)) (Int.pow_nonneg h2)
      omega
theorem Bd.badOf {r : Row} {u : Ru} (h : Bd r u) (p : Int) (e : Nat) (n : Int) : 0 ≤ K51.badOf r u p e n ∧ K51.badOf r u p e n ≤ 10000 := by
  have h1 : 0 ≤ shrOf r p e := (h.shr (startOf r p) e).1
  have h2 : 0 ≤ strOf r 0 p e := (h.str 0 (startOf r p) e).1
  have h3 := h.room
  unfold K51.badOf
  split
  · exact ⟨by decide, by decide⟩
  · split
    · exact badBy_bd (by omega) h1
    · split
      · exact ⟨by decide, by decide⟩
      · exact badBy_bd (by omega) (by omega)
theorem Bd.penOf {r : Row} {u : Ru} (h : Bd r u) (e : Nat) : -10000 ≤ K51.penOf r u e ∧ K51.penOf r u e ≤ 10000 := by
  have h1 := h.at_ e
  have h2 := h.hyp
  unfold K51.penOf
  cases q : K51.at_ r e with
  | part a b c => exact ⟨by show -10000 ≤ u.hyp; omega, h2.2⟩
  | pen p =>
    rw [q] at h1
    have h1 : -10000 ≤ p ∧ p ≤ 10000 := h1
    show -10000 ≤ (if p = -10000 then 0 else p) ∧ (if p = -10000 then 0 else p) ≤ 10000
    split <;> omega
  | _ => exact ⟨by exact (by decide : (-10000 : Int) ≤ 0), by exact (by decide : (0 : Int) ≤ 10000)⟩
end K51
set_option Elab.async false
set_option linter.all false
set_option maxRecDepth 100000
set_option maxHeartbeats 4000000
namespace K51
open PySem PySem.Spec PyProof.Rows L2 Evl
section
variable {P : Program} {w : World} {K : PySem.W.Frag} {mg : Str → Option Value} {base : Heap} {cG cR cL aF : Addr}
def iabs (i : Int) : Int := if i < 0 then -i else i
/-! ### is_whole -/
abbrev st_is_whole_measures : Stmt := top 40
def nm_is_whole_measures : List Str := ["value"]
theorem sc_is_whole_measures : FnScope nm_is_whole_measures ["value"] (defScope st_is_whole_measures) := ⟨rfl, rfl, rfl, by decide +kernel, rfl, by decide +kernel, by decide +kernel⟩
abbrev st_is_whole_lengths : Stmt := top 13
def nm_is_whole_lengths : List Str := ["value"]
theorem sc_is_whole_lengths : FnScope nm_is_whole_lengths ["value"] (defScope st_is_whole_lengths) := ⟨rfl, rfl, rfl, by decide +kernel, rfl, by decide +kernel, by decide +kernel⟩
/-- an int of few enough digits is whole -/
def sp_is_whole : Sp := spV fun vs H v => ∃ i : Int, vs = [.int i] ∧ v = .bl (decide (iabs i < 10 ^ 60))
theorem ok_is_whole_measures (T : Tx K mg cG cR cL aF) (D : DefAt K mg "is_whole_measures" "is_whole" "is_whole" st_is_whole_measures) : Cal P w K mg base "is_whole_measures" ["value"] 1 sp_is_whole := by
  refine cal_of D sc_is_whole_measures (fun _ _ _ _ _ _ us hl => match us, hl with | [_], _ => rfl) (fun vs H Q E h => ?_) (fun f cdv A outer s H vs Q E hr h => ?_)
  · obtain ⟨v, ⟨i, rfl, _⟩, _⟩ := h
    rfl
  · obtain ⟨v, ⟨i, rfl, rfl⟩, k⟩ := h
    refine ⟨_, (pss_one (ps_ret (pe_and (pe_callB call_isi (by rfl) T.isinstance_ (by decide +kernel) (pa_cons (pv 0) (pa_cons (pe_bltn (v := .ty "int") rfl T.int_ (by decide +kernel) rfl) pa_nil))) (pe_and (pe_not (pe_callB call_isi (by rfl) T.isinstance_ (by decide +kernel) (pa_cons (pv 0) (pa_cons (pe_bltn (v := .ty "bool") rfl T.bool_ (by decide +kernel) rfl) pa_nil)))) (pe_one (pe_cmpR op_lt (pe_callB call_abs (by rfl) T.abs_ (by decide +kernel) (pa_cons (pv 0) pa_nil)) (pe_gi T.g_BOUND) (nomark _))))))), ?_⟩
    refine s_ret (ev_is (ev_andV (ev_isi (b := true) (ev_var rfl) ev_c (fun _ _ => .base (.int i)) (by decide +kernel)) fun _ => ev_andV (ev_notV (ev_isi (b := false) (ev_var rfl) ev_c (fun _ _ => .base (.int i)) (by decide +kernel))) fun _ => ev_op (ev_abs (ev_var rfl)) ev_c rv_I0) ?_) fun H1 e => k H1 e
    rfl
theorem ok_is_whole_lengths (T : Tx K mg cG cR cL aF) (D : DefAt K mg "is_whole_lengths" "is_whole" "is_whole" st_is_whole_lengths) : Cal P w K mg base "is_whole_lengths" ["value"] 1 sp_is_whole := by
  refine cal_of D sc_is_whole_lengths (fun _ _ _ _ _ _ us hl => match us, hl with | [_], _ => rfl) (fun vs H Q E h => ?_) (fun f cdv A outer s H vs Q E hr h => ?_)
  · obtain ⟨v, ⟨i, rfl, _⟩, _⟩ := h
    rfl
  · obtain ⟨v, ⟨i, rfl, rfl⟩, k⟩ := h
    refine ⟨_, (pss_one (ps_ret (pe_and (pe_callB call_isi (by rfl) T.isinstance_ (by decide +kernel) (pa_cons (pv 0) (pa_cons (pe_bltn (v := .ty "int") rfl T.int_ (by decide +kernel) rfl) pa_nil))) (pe_and (pe_not (pe_callB call_isi (by rfl) T.isinstance_ (by decide +kernel) (pa_cons (pv 0) (pa_cons (pe_bltn (v := .ty "bool") rfl T.bool_ (by decide +kernel) rfl) pa_nil)))) (pe_one (pe_cmpR op_lt (pe_callB call_abs (by rfl) T.abs_ (by decide +kernel) (pa_cons (pv 0) pa_nil)) (pe_gi T.g_BOUND) (nomark _))))))), ?_⟩
    refine s_ret (ev_is (ev_andV (ev_isi (b := true) (ev_var rfl) ev_c (fun _ _ => .base (.int i)) (by decide +kernel)) fun _ => ev_andV (ev_notV (ev_isi (b := false) (ev_var rfl) ev_c (fun _ _ => .base (.int i)) (by decide +kernel))) fun _ => ev_op (ev_abs (ev_var rfl)) ev_c rv_I0) ?_) fun H1 e => k H1 e
    rfl
/-! ### is_length, is_amount, is_order, is_within -/
abbrev st_is_length : Stmt := top 15
def nm_is_length : List Str := ["value"]
theorem sc_is_length : FnScope nm_is_length ["value"] (defScope st_is_length) := ⟨rfl, rfl, rfl, by decide +kernel, rfl, by decide +kernel, by decide +kernel⟩
def sp_is_length : Sp := spV fun vs H v => ∃ i : Int, vs = [.int i] ∧ v = .bl (decide (iabs i ≤ 1073741823))
theorem ok_is_length (T : Tx K mg cG cR cL aF) (D : DefAt K mg "is_length" "is_length" "is_length" st_is_length) (c_is_whole_lengths : Cal P w K mg base "is_whole_lengths" ["value"] 1 sp_is_whole) : Cal P w K mg base "is_length" ["value"] 2 sp_is_length := by
  refine cal_of D sc_is_length (fun _ _ _ _ _ _ us hl => match us, hl with | [_], _ => rfl) (fun vs H Q E h => ?_) (fun f cdv A outer s H vs Q E hr h => ?_)
  · obtain ⟨v, ⟨i, rfl, _⟩, _⟩ := h
    rfl
  · obtain ⟨v, ⟨i, rfl, rfl⟩, k⟩ := h
    refine ⟨_, (pss_one (ps_ret (pe_and (pe_cal c_is_whole_lengths (hr.mono (by decide)) (pa_cons (pv 0) pa_nil)) (pe_one (pe_cmpR op_le (pe_callB call_abs (by rfl) T.abs_ (by decide +kernel) (pa_cons (pv 0) pa_nil)) (pe_gi T.g_MAX_LENGTH) (nomark _)))))), ?_⟩
    refine s_ret (ev_is (ev_andV (ev_calV (ea_cons (ev_var rfl) ea_nil) fun H1 _ => ⟨i, rfl, rfl⟩) fun _ => ev_op (ev_abs (ev_var rfl)) ev_c rv_I0) ?_) fun H1 e => k H1 e
    show V.bl (decide (iabs i < 10 ^ 60) && decide (iabs i ≤ 1073741823)) = V.bl (decide (iabs i ≤ 1073741823))
    congr 1
    rw [Bool.eq_iff_iff, Bool.and_eq_true, decide_eq_true_iff, decide_eq_true_iff]
    omega
abbrev st_is_amount : Stmt := top 24
def nm_is_amount : List Str := ["value"]
theorem sc_is_amount : FnScope nm_is_amount ["value"] (defScope st_is_amount) := ⟨rfl, rfl, rfl, by decide +kernel, rfl, by decide +kernel, by decide +kernel⟩
def sp_is_amount : Sp := spV fun vs H v => ∃ i : Int, vs = [.int i] ∧ v = .bl (decide (0 ≤ i ∧ i ≤ 1073741823))
theorem ok_is_amount (T : Tx K mg cG cR cL aF) (D : DefAt K mg "is_amount" "is_amount" "is_amount" st_is_amount) (c_is_length : Cal P w K mg base "is_length" ["value"] 2 sp_is_length) : Cal P w K mg base "is_amount" ["value"] 3 sp_is_amount := by
  refine cal_of D sc_is_amount (fun _ _ _ _ _ _ us hl => match us, hl with | [_], _ => rfl) (fun vs H Q E h => ?_) (fun f cdv A outer s H vs Q E hr h => ?_)
  · obtain ⟨v, ⟨i, rfl, _⟩, _⟩ := h
    rfl
  · obtain ⟨v, ⟨i, rfl, rfl⟩, k⟩ := h
    refine ⟨_, (pss_one (ps_ret (pe_and (pe_cal c_is_length (hr.mono (by decide)) (pa_cons (pv 0) pa_nil)) (pe_one (pe_cmpR op_ge (pv 0) pe_int (nomark _)))))), ?_⟩
    refine s_ret (ev_is (ev_andV (ev_calV (ea_cons (ev_var rfl) ea_nil) fun H1 _ => ⟨i, rfl, rfl⟩) fun _ => ev_op (ev_var rfl) ev_c rv_I0) ?_) fun H1 e => k H1 e
    congr 1
    rw [Bool.eq_iff_iff, Bool.and_eq_true, decide_eq_true_iff, decide_eq_true_iff, decide_eq_true_iff]
    unfold iabs
    split <;> omega
abbrev st_is_order : Stmt := top 25
def nm_is_order : List Str := ["value"]
theorem sc_is_order : FnScope nm_is_order ["value"] (defScope st_is_order) := ⟨rfl, rfl, rfl, by decide +kernel, rfl, by decide +kernel, by decide +kernel⟩
def sp_is_order : Sp := spV fun vs H v => ∃ i : Int, vs = [.int i] ∧ v = .bl (decide (0 ≤ i ∧ i ≤ 3))
theorem ok_is_order (T : Tx K mg cG cR cL aF) (D : DefAt K mg "is_order" "is_order" "is_order" st_is_order) (c_is_whole_lengths : Cal P w K mg base "is_whole_lengths" ["value"] 1 sp_is_whole) : Cal P w K mg base "is_order" ["value"] 2 sp_is_order := by
  refine cal_of D sc_is_order (fun _ _ _ _ _ _ us hl => match us, hl with | [_], _ => rfl) (fun vs H Q E h => ?_) (fun f cdv A outer s H vs Q E hr h => ?_)
  · obtain ⟨v, ⟨i, rfl, _⟩, _⟩ := h
    rfl
  · obtain ⟨v, ⟨i, rfl, rfl⟩, k⟩ := h
    refine ⟨_, (pss_one (ps_ret (pe_and (pe_cal c_is_whole_lengths (hr.mono (by decide)) (pa_cons (pv 0) pa_nil)) (pe_one (pe_chain op_le op_le pe_int (pv 0) (pe_gi T.g_MAX_ORDER)))))), ?_⟩
    refine s_ret (ev_is (ev_andV (ev_calV (ea_cons (ev_var rfl) ea_nil) fun H1 _ => ⟨i, rfl, rfl⟩) fun _ => ev_chain ev_c (ev_var rfl) rv_I0 (fun _ => ev_c) fun _ => rv_I0) ?_) fun H1 e => k H1 e
    congr 1
    rw [Bool.eq_iff_iff, Bool.and_eq_true, Bool.and_eq_true, decide_eq_true_iff, decide_eq_true_iff, decide_eq_true_iff, decide_eq_true_iff]
    unfold iabs
    split <;> omega
abbrev st_is_within : Stmt := top 42
def nm_is_within : List Str := ["value", "low", "high"]
theorem sc_is_within : FnScope nm_is_within ["value", "low", "high"] (defScope st_is_within) := ⟨rfl, rfl, rfl, by decide +kernel, rfl, by decide +kernel, by decide +kernel⟩
def sp_is_within : Sp := spV fun vs H v => ∃ i lo hi : Int, vs = [.int i, .int lo, .int hi] ∧ -100000000 ≤ lo ∧ hi ≤ 100000000 ∧ v = .bl (decide (lo ≤ i ∧ i ≤ hi))
theorem ok_is_within (T : Tx K mg cG cR cL aF) (D : DefAt K mg "is_within" "is_within" "is_within" st_is_within) (c_is_whole_measures : Cal P w K mg base "is_whole_measures" ["value"] 1 sp_is_whole) : Cal P w K mg base "is_within" ["value", "low", "high"] 2 sp_is_within := by
  refine cal_of D sc_is_within (fun _ _ _ _ _ _ us hl => match us, hl with | [_, _, _], _ => rfl) (fun vs H Q E h => ?_) (fun f cdv A outer s H vs Q E hr h => ?_)
  · obtain ⟨v, ⟨i, _, _, rfl, _⟩, _⟩ := h
    rfl
  · obtain ⟨v, ⟨i, lo, hi, rfl, h1, h2, rfl⟩, k⟩ := h
    refine ⟨_, (pss_one (ps_ret (pe_and (pe_cal c_is_whole_measures (hr.mono (by decide)) (pa_cons (pv 0) pa_nil)) (pe_one (pe_chain op_le op_le (pv 1) (pv 0) (pv 2)))))), ?_⟩
    refine s_ret (ev_is (ev_andV (ev_calV (ea_cons (ev_var rfl) ea_nil) fun H1 _ => ⟨i, rfl, rfl⟩) fun _ => ev_chain (ev_var rfl) (ev_var rfl) rv_I0 (fun _ => ev_var rfl) fun _ => rv_I0) ?_) fun H1 e => k H1 e
    congr 1
    rw [Bool.eq_iff_iff, Bool.and_eq_true, Bool.and_eq_true, decide_eq_true_iff, decide_eq_true_iff, decide_eq_true_iff, decide_eq_true_iff]
    unfold iabs
    split <;> omega
/-! ### is_forced, stays -/
theorem tag_dec (x y : Str) : decide (V.str x = V.str y) = decide (x = y) := by
  by_cases e : x = y
  · rw [e, decide_eq_true rfl, decide_eq_true rfl]
  · rw [decide_eq_false e]
    exact decide_eq_false fun q => e (by injection q)
theorem int_dec (x y : Int) : decide (V.int x = V.int y) = decide (x = y) := by
  by_cases e : x = y
  · rw [e, decide_eq_true rfl, decide_eq_true rfl]
  · rw [decide_eq_false e]
    exact decide_eq_false fun q => e (by injection q)
abbrev st_is_forced : Stmt := top 44
def nm_is_forced : List Str := ["item"]
theorem sc_is_forced : FnScope nm_is_forced ["item"] (defScope st_is_forced) := ⟨rfl, rfl, rfl, by decide +kernel, rfl, by decide +kernel, by decide +kernel⟩
def sp_is_forced (cG : Addr) : Sp := spV fun vs H v => ∃ x it, vs = [x] ∧ ItAt (GSlot cG) H x it ∧ v = .bl it.forced
theorem ok_is_forced (T : Tx K mg cG cR cL aF) (D : DefAt K mg "is_forced" "is_forced" "is_forced" st_is_forced) : Cal P w K mg base "is_forced" ["item"] 1 (sp_is_forced cG) := by
  refine cal_of D sc_is_forced (fun _ _ _ _ _ _ us hl => match us, hl with | [_], _ => rfl) (fun vs H Q E h => ?_) (fun f cdv A outer s H vs Q E hr h => ?_)
  · obtain ⟨v, ⟨x, it, rfl, _⟩, _⟩ := h
    rfl
  · obtain ⟨v, ⟨x, it, rfl, hx, rfl⟩, k⟩ := h
    refine ⟨_, (pss_one (ps_ret (pe_and (pe_cmpR op_eq (pe_ix ix_tup (pv 0) pe_int (fun _ _ => rfl)) pe_str (nomark _)) (pe_one (pe_cmpR op_eq (pe_ix ix_tup (pv 0) pe_int (fun _ _ => rfl)) (pe_gi T.g_OPENED) (nomark _)))))), ?_⟩
    cases hx with
    | pen hp =>
      refine s_ret (ev_is (ev_andV (ev_op (ev_ixT (ev_var rfl) ev_c hp at0) ev_c (rv_eq rfl)) fun _ => ev_op (ev_ixT (ev_var rfl) ev_c hp at1) ev_c (rv_eq rfl)) ?_) fun H1 e => k H1 e
      rw [tag_dec, int_dec]
      rfl
    | box hp => exact s_ret (ev_is (ev_andV (b := false) (ev_is (w := .bl false) (ev_op (ev_ixT (ev_var rfl) ev_c hp at0) ev_c (rv_eq rfl)) (by decide +kernel)) fun h => absurd h (by decide)) rfl) fun H1 e => k H1 e
    | glue hp _ => exact s_ret (ev_is (ev_andV (b := false) (ev_is (w := .bl false) (ev_op (ev_ixT (ev_var rfl) ev_c hp at0) ev_c (rv_eq rfl)) (by decide +kernel)) fun h => absurd h (by decide)) rfl) fun H1 e => k H1 e
    | part hp => exact s_ret (ev_is (ev_andV (b := false) (ev_is (w := .bl false) (ev_op (ev_ixT (ev_var rfl) ev_c hp at0) ev_c (rv_eq rfl)) (by decide +kernel)) fun h => absurd h (by decide)) rfl) fun H1 e => k H1 e
abbrev st_stays : Stmt := top 45
def nm_stays : List Str := ["item"]
theorem sc_stays : FnScope nm_stays ["item"] (defScope st_stays) := ⟨rfl, rfl, rfl, by decide +kernel, rfl, by decide +kernel, by decide +kernel⟩
theorem stays_tag (it : It) : inV (.str it.tag) [.str "box", .str "part"] = it.stays := by
  cases it with
  | box _ => exact (by decide +kernel : inV (.str "box") [.str "box", .str "part"] = true)
  | glue _ _ _ _ => exact (by decide +kernel : inV (.str "glue") [.str "box", .str "part"] = false)
  | part _ _ _ => exact (by decide +kernel : inV (.str "part") [.str "box", .str "part"] = true)
  | pen _ => exact (by decide +kernel : inV (.str "penalty") [.str "box", .str "part"] = false)
def sp_stays (cG : Addr) : Sp := spV fun vs H v => ∃ x it, vs = [x] ∧ ItAt (GSlot cG) H x it ∧ v = .bl it.stays
theorem ok_stays (T : Tx K mg cG cR cL aF) (D : DefAt K mg "stays" "stays" "stays" st_stays) : Cal P w K mg base "stays" ["item"] 1 (sp_stays cG) := by
  refine cal_of D sc_stays (fun _ _ _ _ _ _ us hl => match us, hl with | [_], _ => rfl) (fun vs H Q E h => ?_) (fun f cdv A outer s H vs Q E hr h => ?_)
  · obtain ⟨v, ⟨x, it, rfl, _⟩, _⟩ := h
    rfl
  · obtain ⟨v, ⟨x, it, rfl, hx, rfl⟩, k⟩ := h
    refine ⟨_, (pss_one (ps_ret (pe_cmpR op_in_seq (pe_ix ix_tup (pv 0) pe_int (fun _ _ => rfl)) (pe_tup (pa_cons pe_str (pa_cons pe_str pa_nil))) rfl))), ?_⟩
    obtain ⟨a, xs, rfl, hp⟩ := hx.tag
    refine s_ret (ev_is (ev_inU (ev_ixT (ev_var rfl) ev_c hp at0) (eu_tup (ea_cons ev_c (ea_cons ev_c ea_nil)) (by decide)) rfl rfl) ?_) fun H1 e => k H1 e
    rw [stays_tag]
end
end K51
set_option Elab.async false
set_option linter.all false
set_option maxRecDepth 100000
set_option maxHeartbeats 4000000
namespace K51
open PySem PySem.Spec PyProof.Rows L2 Evl
section
variable {P : Program} {w : World} {K : PySem.W.Frag} {mg : Str → Option Value} {base : Heap} {cG cR cL aF : Addr}
abbrev st_class_of : Stmt := top 56
def nm_class_of : List Str := ["badness", "rest"]
theorem sc_class_of : FnScope nm_class_of ["badness", "rest"] (defScope st_class_of) := ⟨rfl, rfl, rfl, by decide +kernel, rfl, by decide +kernel, by decide +kernel⟩
def sp_class_of : Sp := spV fun vs H v => ∃ b r : Int, vs = [.int b, .int r] ∧ v = .int (clsBy b r)
theorem ok_class_of (T : Tx K mg cG cR cL aF) (D : DefAt K mg "class_of" "class_of" "class_of" st_class_of) : Cal P w K mg base "class_of" ["badness", "rest"] 1 sp_class_of := by
  refine cal_of D sc_class_of (fun _ _ _ _ _ _ us hl => match us, hl with | [_, _], _ => rfl) (fun vs H Q E h => ?_) (fun f cdv A outer s H vs Q E hr h => ?_)
  · obtain ⟨v, ⟨b, r, rfl, _⟩, _⟩ := h
    rfl
  · obtain ⟨v, ⟨b, r, rfl, rfl⟩, k⟩ := h
    refine ⟨_, (pss_cons (ps_if (pt_cmpR op_le (pv 0) (pe_gi T.g_TIGHT) (nomark _)) (pss_one (ps_ret pe_int)) pss_nil)
      (pss_cons (ps_if (pt_cmpR op_lt (pv 1) pe_int (nomark _)) (pss_one (ps_ret pe_int)) pss_nil)
      (pss_one (ps_ret (pe_ifExp (pt_cmpR op_le (pv 0) (pe_gi T.g_LOOSE) (nomark _)) pe_int pe_int))))), ?_⟩
    refine q_when (et_test (ev_op (ev_var rfl) ev_c rv_I0)) (fun h1 H1 e1 => ?_) (fun h1 H1 e1 => ?_)
    · have h1 := of_decide_eq_true h1
      refine s_ret ev_c fun H2 e2 => kz k ?_ (e1.trans e2)
      unfold clsBy
      rw [if_pos h1]
    · have h1 := of_decide_eq_false h1
      refine q_when (et_test (ev_op (ev_var rfl) ev_c rv_I0)) (fun h2 H2 e2 => ?_) (fun h2 H2 e2 => ?_)
      · have h2 := of_decide_eq_true h2
        refine s_ret ev_c fun H3 e3 => kz k ?_ ((e1.trans e2).trans e3)
        unfold clsBy
        rw [if_neg h1, if_pos h2]
      · have h2 := of_decide_eq_false h2
        refine s_ret (v := .int (if b ≤ 99 then 2 else 3)) (ev_if (et_test (ev_op (ev_var rfl) ev_c rv_I0)) (fun h3 => ?_) (fun h3 => ?_)) fun H3 e3 => kz k ?_ ((e1.trans e2).trans e3)
        · have h3 := of_decide_eq_true h3
          rw [if_pos h3]
          exact ev_c
        · have h3 := of_decide_eq_false h3
          rw [if_neg h3]
          exact ev_c
        · unfold clsBy
          rw [if_neg h1, if_neg h2]
abbrev st_badness_by : Stmt := top 52
def nm_badness_by : List Str := ["wanted", "room"]
theorem sc_badness_by : FnScope nm_badness_by ["wanted", "room"] (defScope st_badness_by) := ⟨rfl, rfl, rfl, by decide +kernel, rfl, by decide +kernel, by decide +kernel⟩
def sp_badness_by : Sp := spV fun vs H v => ∃ b r : Int, vs = [.int b, .int r] ∧ 0 ≤ b ∧ b < 1000000000 ∧ 0 ≤ r ∧ r ≤ 1000 ∧ v = .int (badBy b r)
theorem cube_pos {r : Int} (h : 0 ≤ r) (hn : ¬ r = 0) (h2 : r ≤ 1000) : 0 < r ^ 3 ∧ r ^ 3 ≤ 1000000000 := by
  have e : r ^ 3 = r * r * r := by rw [Int.pow_succ, Int.pow_succ, Int.pow_succ, Int.pow_zero, Int.one_mul]
  rw [e]
  have h1 : 0 < r := by omega
  have h3 : 0 < r * r := Int.mul_pos h1 h1
  have h4 : r * r ≤ 1000 * 1000 := Int.mul_le_mul h2 h2 h (by decide)
  refine ⟨Int.mul_pos h3 h1, ?_⟩
  have := Int.mul_le_mul h4 h2 h (by decide)
  exact this
theorem ok_badness_by (T : Tx K mg cG cR cL aF) (D : DefAt K mg "badness_by" "badness_by" "badness_by" st_badness_by) : Cal P w K mg base "badness_by" ["wanted", "room"] 1 sp_badness_by := by
  refine cal_of D sc_badness_by (fun _ _ _ _ _ _ us hl => match us, hl with | [_, _], _ => rfl) (fun vs H Q E h => ?_) (fun f cdv A outer s H vs Q E hr h => ?_)
  · obtain ⟨v, ⟨b, r, rfl, _⟩, _⟩ := h
    rfl
  · obtain ⟨v, ⟨b, r, rfl, hb0, hb1, hr0, hr1, rfl⟩, k⟩ := h
    refine ⟨_, (pss_cons (ps_if (pt_cmpR op_eq (pv 0) pe_int (nomark _)) (pss_one (ps_ret pe_int)) pss_nil)
      (pss_one (ps_ret (pe_ifExp (pt_cmpR op_eq (pv 1) pe_int (nomark _)) (pe_gi T.g_WORST) (pe_callB (call_min2 rfl) (by rfl) T.min_ (by decide +kernel) (pa_cons (pe_gi T.g_WORST) (pa_cons (pe_op op_fdivN (pe_op op_mul pe_int (pe_op op_pow (pv 0) pe_int)) (pe_op op_pow (pv 1) pe_int)) pa_nil))))))), ?_⟩
    refine q_when (et_test (ev_op (ev_var rfl) ev_c (rv_eq rfl))) (fun h1 H1 e1 => ?_) (fun h1 H1 e1 => ?_)
    · rw [int_dec] at h1
      have h1 := of_decide_eq_true h1
      refine s_ret ev_c fun H2 e2 => kz k ?_ (e1.trans e2)
      unfold badBy
      rw [if_pos h1]
    · rw [int_dec] at h1
      have h1 := of_decide_eq_false h1
      refine s_ret (v := .int (badBy b r)) (ev_if (et_test (ev_op (ev_var rfl) ev_c (rv_eq rfl))) (fun h2 => ?_) (fun h2 => ?_)) fun H2 e2 => kz k rfl (e1.trans e2)
      · rw [int_dec] at h2
        have h2 := of_decide_eq_true h2
        refine ev_is ev_c ?_
        unfold badBy
        rw [if_neg h1, if_pos h2]
      · rw [int_dec] at h2
        have h2 := of_decide_eq_false h2
        obtain ⟨c1, c2⟩ := cube_pos hr0 h2 hr1
        refine ev_is (ev_min2 ev_c (ev_op (ev_op ev_c (ev_op (ev_var rfl) ev_c (rv_I ⟨by decide, by decide, by omega⟩)) (rv_I (Or.inl ⟨by decide, by decide⟩))) (ev_op (ev_var rfl) ev_c (rv_I ⟨by decide, by decide, by omega⟩)) (rv_I ⟨?_, ?_⟩))) ?_
        · show r ^ 3 ≠ 0
          omega
        · show (r ^ 3).natAbs < 1073741824
          omega
        · unfold badBy
          rw [if_neg h1, if_neg h2]
          show V.int (if (100 * b ^ 3).fdiv (r ^ 3) < 10000 then (100 * b ^ 3).fdiv (r ^ 3) else 10000) = V.int (min 10000 ((100 * b ^ 3) / r ^ 3))
          rw [Int.fdiv_eq_ediv_of_nonneg _ (by omega)]
          congr 1
          rw [Int.min_def]
          split <;> split <;> omega
abbrev st_natural_of : Stmt := top 53
def nm_natural_of : List Str := ["item"]
theorem sc_natural_of : FnScope nm_natural_of ["item"] (defScope st_natural_of) := ⟨rfl, rfl, rfl, by decide +kernel, rfl, by decide +kernel, by decide +kernel⟩
def sp_natural_of (cG : Addr) : Sp := spV fun vs H v => ∃ x it, vs = [x] ∧ ItAt (GSlot cG) H x it ∧ v = .int it.natW
theorem ok_natural_of (T : Tx K mg cG cR cL aF) (GG : GC P w K mg base cG) (D : DefAt K mg "natural_of" "natural_of" "natural_of" st_natural_of) : Cal P w K mg base "natural_of" ["item"] 3 (sp_natural_of cG) := by
  refine cal_of D sc_natural_of (fun _ _ _ _ _ _ us hl => match us, hl with | [_], _ => rfl) (fun vs H Q E h => ?_) (fun f cdv A outer s H vs Q E hr h => ?_)
  · obtain ⟨v, ⟨x, it, rfl, _⟩, _⟩ := h
    rfl
  · obtain ⟨v, ⟨x, it, rfl, hx, rfl⟩, k⟩ := h
    refine ⟨_, (pss_cons (ps_match (pe_ix ix_tup (pv 0) pe_int (fun _ _ => rfl)) (pm_cons (pss_one (ps_ret (pe_ix ix_tup (pv 0) pe_int (fun _ _ => rfl)))) (pm_cons (pss_one (ps_ret (pe_glue_natural GG (hr.mono (by decide)) (pe_ix ix_tup (pv 0) pe_int (fun _ _ => rfl))))) (pm_cons (pss_one (ps_ret (pe_ix ix_tup (pv 0) pe_int (fun _ _ => rfl)))) pm_nil))))
      (pss_one (ps_ret pe_int))), ?_⟩
    cases hx with
    | box hp => exact q_match (ev_ixT (ev_var rfl) ev_c hp at0) fun H1 e1 => m_yes (s_ret (ev_ixT (ev_var rfl) ev_c (e1 _ _ hp) at1) fun H2 e2 => kz k rfl (e1.trans e2))
    | glue hp hg => exact q_match (ev_ixT (ev_var rfl) ev_c hp at0) fun H1 e1 => m_no (by decide +kernel) (m_yes (s_ret (ev_gprop (ev_ixT (ev_var rfl) ev_c (e1 _ _ hp) at1) (gSlot_mono.to _ _ _ _ _ _ _ e1 hg) rfl) fun H2 e2 => kz k rfl (e1.trans e2)))
    | part hp => exact q_match (ev_ixT (ev_var rfl) ev_c hp at0) fun H1 e1 => m_no (by decide +kernel) (m_no (by decide +kernel) (m_yes (s_ret (ev_ixT (ev_var rfl) ev_c (e1 _ _ hp) at3) fun H2 e2 => kz k rfl (e1.trans e2))))
    | pen hp => exact q_match (ev_ixT (ev_var rfl) ev_c hp at0) fun H1 e1 => m_no (by decide +kernel) (m_no (by decide +kernel) (m_no (by decide +kernel) (m_end (by dsimp only; exact s_ret ev_c fun H2 e2 => kz k rfl (e1.trans e2)))))
abbrev st_added_cost : Stmt := top 60
def nm_added_cost : List Str := ["one", "other"]
theorem sc_added_cost : FnScope nm_added_cost ["one", "other"] (defScope st_added_cost) := ⟨rfl, rfl, rfl, by decide +kernel, rfl, by decide +kernel, by decide +kernel⟩
def sp_added_cost : Sp := spR fun vs H R => ∃ x y c d, vs = [x, y] ∧ TupAt H x (costV c) ∧ TupAt H y (costV d) ∧ R = fun v H2 => TupAt H2 v (costV (cadd c d))
theorem ok_added_cost (T : Tx K mg cG cR cL aF) (D : DefAt K mg "added_cost" "added_cost" "added_cost" st_added_cost) : Cal P w K mg base "added_cost" ["one", "other"] 1 sp_added_cost := by
  refine cal_of D sc_added_cost (fun _ _ _ _ _ _ us hl => match us, hl with | [_, _], _ => rfl) (fun vs H Q E h => ?_) (fun f cdv A outer s H vs Q E hr h => ?_)
  · obtain ⟨v, ⟨x, y, c, d, rfl, _⟩, _⟩ := h
    rfl
  · obtain ⟨R, ⟨x, y, c, d, rfl, ⟨a, rfl, ha⟩, ⟨b, rfl, hb⟩, rfl⟩, k⟩ := h
    refine ⟨_, (pss_one (ps_ret (pe_tup (pa_cons (pe_op op_add (pe_ix ix_tup (pv 0) pe_int (fun _ _ => rfl)) (pe_ix ix_tup (pv 1) pe_int (fun _ _ => rfl))) (pa_cons (pe_op op_add (pe_ix ix_tup (pv 0) pe_int (fun _ _ => rfl)) (pe_ix ix_tup (pv 1) pe_int (fun _ _ => rfl))) (pa_cons (pe_op op_add (pe_ix ix_tup (pv 0) pe_int (fun _ _ => rfl)) (pe_ix ix_tup (pv 1) pe_int (fun _ _ => rfl))) pa_nil)))))), ?_⟩
    exact s_retU (eu_tup (ea_cons (ev_op (ev_ixT (ev_var rfl) ev_c ha at0) (ev_ixT (ev_var rfl) ev_c hb at0) rv_I0) (ea_cons (ev_op (ev_ixT (ev_var rfl) ev_c ha at1) (ev_ixT (ev_var rfl) ev_c hb at1) rv_I0)
      (ea_cons (ev_op (ev_ixT (ev_var rfl) ev_c ha at2) (ev_ixT (ev_var rfl) ev_c hb at2) rv_I0) ea_nil))) (by show 3 ≤ 100000; decide)) fun p H1 _ e h => k _ H1 e ⟨p, rfl, h⟩
/-! ### penalty_at, edge_widths -/
theorem its_at {cG : Addr} {H : Hp} {vs : List V} {r : Row} {i : Nat} (h : ItsAt (GSlot cG) H vs r) (hi : i < r.length) : ∃ x, vs[i]? = some x ∧ ItAt (GSlot cG) H x (at_ r i) := paired_get h (at_some hi)
theorem tag_part (it : It) : decide (V.str it.tag = V.str "part") = it.isPart := by
  cases it with
  | box _ => exact (by decide +kernel : decide (V.str "box" = V.str "part") = false)
  | glue _ _ _ _ => exact (by decide +kernel : decide (V.str "glue" = V.str "part") = false)
  | part _ _ _ => exact (by decide +kernel : decide (V.str "part" = V.str "part") = true)
  | pen _ => exact (by decide +kernel : decide (V.str "penalty" = V.str "part") = false)
def It.isPen : It → Bool
  | .pen _ => true
  | _ => false
theorem tag_pen (it : It) : decide (V.str it.tag = V.str "penalty") = it.isPen := by
  cases it with
  | box _ => exact (by decide +kernel : decide (V.str "box" = V.str "penalty") = false)
  | glue _ _ _ _ => exact (by decide +kernel : decide (V.str "glue" = V.str "penalty") = false)
  | part _ _ _ => exact (by decide +kernel : decide (V.str "part" = V.str "penalty") = false)
  | pen _ => exact (by decide +kernel : decide (V.str "penalty" = V.str "penalty") = true)
abbrev st_penalty_at : Stmt := top 54
def nm_penalty_at : List Str := ["row", "rules", "end"]
theorem sc_penalty_at : FnScope nm_penalty_at ["row", "rules", "end"] (defScope st_penalty_at) := ⟨rfl, rfl, rfl, by decide +kernel, rfl, by decide +kernel, by decide +kernel⟩
def sp_penalty_at (cG cR : Addr) : Sp := spV fun vs H v => ∃ x y r u, ∃ e : Nat, vs = [x, y, .int (e : Int)] ∧ RowAt cG H x r ∧ RulesAt cR H y u ∧ e < r.length ∧ v = .int (penOf r u e)
theorem ok_penalty_at (T : Tx K mg cG cR cL aF) (RR : RC K cR) (D : DefAt K mg "penalty_at" "penalty_at" "penalty_at" st_penalty_at) (c_is_forced : Cal P w K mg base "is_forced" ["item"] 1 (sp_is_forced cG)) : Cal P w K mg base "penalty_at" ["row", "rules", "end"] 2 (sp_penalty_at cG cR) := by
  refine cal_of D sc_penalty_at (fun _ _ _ _ _ _ us hl => match us, hl with | [_, _, _], _ => rfl) (fun vs H Q E h => ?_) (fun f cdv A outer s H vs Q E hr h => ?_)
  · obtain ⟨v, ⟨x, y, r, u, e, rfl, _⟩, _⟩ := h
    rfl
  · obtain ⟨v, ⟨x, y, r, u, e, rfl, ⟨a, ws, rfl, ha, hi⟩, ⟨b, dx, wa, rfl, hb, hw⟩, he, rfl⟩, k⟩ := h
    refine ⟨_, (pss_cons (ps_if (pt_cmpR op_eq (pe_ix ix_tup (pe_ix ix_tup (pv 0) (pv 2) (fun _ _ => rfl)) pe_int (fun _ _ => rfl)) pe_str (nomark _)) (pss_one (ps_ret (pe_fld (pv 1) rfl))) pss_nil)
      (pss_one (ps_ret (pe_ifExp (PW.pt (pw_and (pt_cmpR op_eq (pe_ix ix_tup (pe_ix ix_tup (pv 0) (pv 2) (fun _ _ => rfl)) pe_int (fun _ _ => rfl)) pe_str (nomark _)) (pw_and1 (pt_not (pt_val (pe_cal c_is_forced (hr.mono (by decide)) (pa_cons (pe_ix ix_tup (pv 0) (pv 2) (fun _ _ => rfl)) pa_nil))))))) (pe_ix ix_tup (pe_ix ix_tup (pv 0) (pv 2) (fun _ _ => rfl)) pe_int (fun _ _ => rfl)) pe_int)))), ?_⟩
    obtain ⟨z, hz, hit⟩ := its_at hi he
    have hza : atI ws (e : Int) = some z := atI_nat hz
    unfold penOf at k
    generalize at_ r e = it at hit k
    obtain ⟨t, xs, rfl, ht⟩ := hit.tag
    refine q_when (b := it.isPart) (et_is (et_test (ev_op (ev_ixT (ev_ixT (ev_var rfl) (ev_var rfl) ha hza) ev_c ht at0) ev_c (rv_eq rfl))) (tag_part it)) (fun h1 H1 e1 => ?_) (fun h1 H1 e1 => ?_)
    · refine s_ret (ev_fld (ev_var rfl) (e1 _ _ hb) RR.cl RR.nH ruF_hyp) fun H2 e2 => kz k ?_ (e1.trans e2)
      cases it with
      | part _ _ _ => rfl
      | _ => cases h1
    · have hza1 := hza
      have ha1 := e1 _ _ ha
      have ht1 := e1 _ _ ht
      cases hit with
      | part q => cases h1
      | box q => exact s_ret (ev_if (b := false) (et_is (et_and (b := false) (et_test (ev_op (ev_ixT (ev_ixT (ev_var rfl) (ev_var rfl) ha1 hza) ev_c ht1 at0) ev_c (rv_eq rfl))) fun h => by rw [tag_pen] at h; cases h) (Bool.and_false _)) (fun h => nomatch h) fun _ => ev_c) fun H2 e2 => kz k rfl (e1.trans e2)
      | glue q _ => exact s_ret (ev_if (b := false) (et_is (et_and (b := false) (et_test (ev_op (ev_ixT (ev_ixT (ev_var rfl) (ev_var rfl) ha1 hza) ev_c ht1 at0) ev_c (rv_eq rfl))) fun h => by rw [tag_pen] at h; cases h) (Bool.and_false _)) (fun h => nomatch h) fun _ => ev_c) fun H2 e2 => kz k rfl (e1.trans e2)
      | @pen t' p q =>
        have hf : ∀ H2, Ex H1 H2 → ItAt (GSlot cG) H2 (.ref t) (.pen p) := fun H2 e2 => .pen (e2 _ _ (e1 _ _ q))
        refine s_ret (v := .int (if p = -10000 then 0 else p)) (ev_if (b := !decide (p = -10000)) (et_is (et_and (b := !decide (p = -10000)) (a := true) (et_is (et_test (ev_op (ev_ixT (ev_ixT (ev_var rfl) (ev_var rfl) ha1 hza) ev_c ht1 at0) ev_c (rv_eq rfl))) (tag_pen _)) fun _ => et_not (et_B (ev_calV (ea_cons (ev_ixT (ev_var rfl) (ev_var rfl) ha1 hza) ea_nil) fun H2 e2 => ⟨_, .pen p, rfl, hf H2 e2, rfl⟩))) (Bool.true_and _)) (fun h2 => ?_) fun h2 => ?_) fun H2 e2 => kz k rfl (e1.trans e2)
        · have h2 : ¬ p = -10000 := by simpa using h2
          rw [if_neg h2]
          exact ev_ixT (ev_ixT (ev_var rfl) (ev_var rfl) ha1 hza) ev_c (e1 _ _ q) at1
        · have h2 : p = -10000 := by simpa using h2
          rw [if_pos h2]
          exact ev_c
abbrev st_edge_widths : Stmt := top 55
def nm_edge_widths : List Str := ["row", "place", "end", "ahead"]
theorem sc_edge_widths : FnScope nm_edge_widths ["row", "place", "end"] (defScope st_edge_widths) := ⟨rfl, rfl, rfl, by decide +kernel, rfl, by decide +kernel, by decide +kernel⟩
def sp_edge_widths (cG : Addr) : Sp := spV fun vs H v => ∃ x r, ∃ (p : Int) (e : Nat), vs = [x, .int p, .int (e : Int)] ∧ RowAt cG H x r ∧ (p = -1 ∨ (0 ≤ p ∧ p < r.length)) ∧ e < r.length ∧ v = .int ((if p = -1 then 0 else (at_ r p.toNat).behind) + (at_ r e).ahead)
theorem ok_edge_widths (T : Tx K mg cG cR cL aF) (D : DefAt K mg "edge_widths" "edge_widths" "edge_widths" st_edge_widths) : Cal P w K mg base "edge_widths" ["row", "place", "end"] 1 (sp_edge_widths cG) := by
  refine cal_of D sc_edge_widths (fun _ _ _ _ _ _ us hl => match us, hl with | [_, _, _], _ => rfl) (fun vs H Q E h => ?_) (fun f cdv A outer s H vs Q E hr h => ?_)
  · obtain ⟨v, ⟨x, r, p, e, rfl, _⟩, _⟩ := h
    rfl
  · obtain ⟨v, ⟨x, r, p, e, rfl, ⟨a, ws, rfl, ha, hi⟩, hp, he, rfl⟩, k⟩ := h
    refine ⟨_, (pss_cons (ps_set (i := 3) sc_edge_widths.nd rfl (Or.inl rfl) (pe_ifExp (PW.pt (pw_and (pt_cmpR op_ge (pv 1) pe_int (nomark _)) (pw_and1 (pt_cmpR op_eq (pe_ix ix_tup (pe_ix ix_tup (pv 0) (pv 1) (fun _ _ => rfl)) pe_int (fun _ _ => rfl)) pe_str (nomark _))))) (pe_ix ix_tup (pe_ix ix_tup (pv 0) (pv 1) (fun _ _ => rfl)) pe_int (fun _ _ => rfl)) pe_int))
      (pss_one (ps_ret (pe_op op_add (pv 3) (pe_ifExp (pt_cmpR op_eq (pe_ix ix_tup (pe_ix ix_tup (pv 0) (pv 2) (fun _ _ => rfl)) pe_int (fun _ _ => rfl)) pe_str (nomark _)) (pe_ix ix_tup (pe_ix ix_tup (pv 0) (pv 2) (fun _ _ => rfl)) pe_int (fun _ _ => rfl)) pe_int))))), ?_⟩
    obtain ⟨z, hz, hit⟩ := its_at hi he
    have hza : atI ws (e : Int) = some z := atI_nat hz
    -- the second part
    have part2 : ∀ (σ : L2.St) (H1 : Hp), Ex H H1 → σ[0]? = some (some (.ref a)) → σ[2]? = some (some (.int (e : Int))) → Ev (tIf (tTest (tOp rEq (tOp (rIxT K) (tOp (rIxT K) (tVar 0) (tVar 2)) (tC (.int 0))) (tC (.str "part")))) (tOp (rIxT K) (tOp (rIxT K) (tVar 0) (tVar 2)) (tC (.int 1))) (tC (.int 0))) σ H1 (.int (at_ r e).ahead) := fun σ H1 e1 s0 s2 => by
      generalize at_ r e = it at hit
      obtain ⟨t, xs, rfl, ht⟩ := hit.tag
      refine ev_if (et_is (et_test (ev_op (ev_ixT (ev_ixT (ev_var s0) (ev_var s2) (e1 _ _ ha) hza) ev_c (e1 _ _ ht) at0) ev_c (rv_eq rfl))) (tag_part it)) (fun h => ?_) fun h => ?_
      · cases hit with
        | part q => exact ev_ixT (ev_ixT (ev_var s0) (ev_var s2) (e1 _ _ ha) hza) ev_c (e1 _ _ q) at1
        | _ => cases h
      · cases hit with
        | part q => cases h
        | _ => exact ev_c
    refine q_asg (v := .int (if p = -1 then 0 else (at_ r p.toNat).behind)) ?_ fun H1 e1 => s_ret (ev_op (ev_var rfl) (part2 _ H1 e1 rfl rfl) rv_I0) fun H2 e2 => kz k rfl (e1.trans e2)
    rcases hp with hp | ⟨hp, hp2⟩
    · rw [if_pos hp]
      exact ev_if (b := false) (et_is (et_and (b := false) (et_test (ev_op (ev_var rfl) ev_c rv_I0)) fun h => absurd (of_decide_eq_true h) (by omega)) (Bool.and_false _)) (fun h => nomatch h) fun _ => ev_c
    · rw [if_neg (by omega)]
      obtain ⟨y, hy, hiy⟩ := its_at hi (i := p.toNat) (by omega)
      have hya : atI ws p = some y := at_of (j := p.toNat) (by omega) hy
      generalize at_ r p.toNat = it at hiy
      obtain ⟨t, xs, rfl, ht⟩ := hiy.tag
      refine ev_if (et_is (et_and (a := true) (et_is (et_test (ev_op (ev_var rfl) ev_c rv_I0)) (decide_eq_true hp)) fun _ => et_is (et_test (ev_op (ev_ixT (ev_ixT (ev_var rfl) (ev_var rfl) ha hya) ev_c ht at0) ev_c (rv_eq rfl))) (tag_part it)) (Bool.true_and _)) (fun h => ?_) fun h => ?_
      · cases hiy with
        | part q => exact ev_ixT (ev_ixT (ev_var rfl) (ev_var rfl) ha hya) ev_c q at2
        | _ => cases h
      · cases hiy with
        | part q => cases h
        | _ => exact ev_c
end
end K51
set_option Elab.async false
set_option linter.all false
set_option maxRecDepth 100000
set_option maxHeartbeats 4000000
namespace K51
open PySem PySem.Spec PyProof.Rows L2 Evl
section
variable {P : Program} {w : World} {K : PySem.W.Frag} {mg : Str → Option Value} {base : Heap} {cG cR cL aF : Addr}
abbrev st_is_place : Stmt := top 48
def nm_is_place : List Str := ["row", "rules", "index"]
theorem sc_is_place : FnScope nm_is_place ["row", "rules", "index"] (defScope st_is_place) := ⟨rfl, rfl, rfl, by decide +kernel, rfl, by decide +kernel, by decide +kernel⟩
def sp_is_place (cG cR : Addr) : Sp := spV fun vs H v => ∃ x y r u, ∃ i : Nat, vs = [x, y, .int (i : Int)] ∧ RowAt cG H x r ∧ RulesAt cR H y u ∧ i < r.length ∧ v = .bl (isPlace r u.hyp i)
theorem ok_is_place (T : Tx K mg cG cR cL aF) (RR : RC K cR) (D : DefAt K mg "is_place" "is_place" "is_place" st_is_place) (c_stays : Cal P w K mg base "stays" ["item"] 1 (sp_stays cG)) : Cal P w K mg base "is_place" ["row", "rules", "index"] 2 (sp_is_place cG cR) := by
  refine cal_of D sc_is_place (fun _ _ _ _ _ _ us hl => match us, hl with | [_, _, _], _ => rfl) (fun vs H Q E h => ?_) (fun f cdv A outer s H vs Q E hr h => ?_)
  · obtain ⟨v, ⟨x, y, r, u, i, rfl, _⟩, _⟩ := h
    rfl
  · obtain ⟨v, ⟨x, y, r, u, i, rfl, ⟨a, ws, rfl, ha, hi⟩, ⟨b, dx, wa, rfl, hb, hw⟩, hlt, rfl⟩, k⟩ := h
    refine ⟨_, (pss_cons (ps_match (pe_ix ix_tup (pe_ix ix_tup (pv 0) (pv 2) (fun _ _ => rfl)) pe_int (fun _ _ => rfl)) (pm_cons (pss_one (ps_ret (pe_and (pe_cmpR op_gt (pv 2) pe_int (nomark _)) (pe_one (pe_cal c_stays (hr.mono (by decide)) (pa_cons (pe_ix ix_tup (pv 0) (pe_op op_sub (pv 2) pe_int) (fun _ _ => rfl)) pa_nil)))))) (pm_cons (pss_one (ps_ret (pe_cmpR op_lt (pe_ix ix_tup (pe_ix ix_tup (pv 0) (pv 2) (fun _ _ => rfl)) pe_int (fun _ _ => rfl)) (pe_gi T.g_CLOSED) (nomark _)))) (pm_cons (pss_one (ps_ret (pe_cmpR op_lt (pe_fld (pv 1) rfl) (pe_gi T.g_CLOSED) (nomark _)))) pm_nil))))
      (pss_one (ps_ret pe_bl))), ?_⟩
    obtain ⟨z, hz, hit⟩ := its_at hi hlt
    have hza : atI ws (i : Int) = some z := atI_nat hz
    have ep : isPlace r u.hyp i = (match at_ r i with
      | .glue _ _ _ _ => decide (0 < i) && (at_ r (i - 1)).stays
      | .pen p => decide (p < 10000)
      | .part _ _ _ => decide (u.hyp < 10000)
      | .box _ => false) := rfl
    generalize at_ r i = it at hit ep
    rw [ep] at k
    cases hit with
    | glue q _ =>
      refine q_match (ev_ixT (ev_ixT (ev_var rfl) (ev_var rfl) ha hza) ev_c q at0) fun H1 e1 => m_yes ?_
      refine s_ret (ev_is (ev_andV (b := (at_ r (i - 1)).stays) (ev_op (ev_var rfl) ev_c rv_I0) fun h => ?_) ?_) fun H2 e2 => kz k rfl (e1.trans e2)
      · have h := of_decide_eq_true h
        obtain ⟨y, hy, hiy⟩ := its_at hi (i := i - 1) (by omega)
        have hya : atI ws ((i : Int) - 1) = some y := at_of (j := i - 1) (by omega) hy
        exact ev_calV (ea_cons (ev_ixT (ev_var rfl) (ev_op (ev_var rfl) ev_c rv_I0) (e1 _ _ ha) hya) ea_nil) fun H2 e2 => ⟨_, _, rfl, hiy.mono gSlot_mono (e1.trans e2), rfl⟩
      · congr 2
        rw [Bool.eq_iff_iff, decide_eq_true_iff, decide_eq_true_iff]
        omega
    | pen q =>
      refine q_match (ev_ixT (ev_ixT (ev_var rfl) (ev_var rfl) ha hza) ev_c q at0) fun H1 e1 => m_no (by decide +kernel) (m_yes ?_)
      exact s_ret (ev_op (ev_ixT (ev_ixT (ev_var rfl) (ev_var rfl) (e1 _ _ ha) hza) ev_c (e1 _ _ q) at1) ev_c rv_I0) fun H2 e2 => kz k rfl (e1.trans e2)
    | part q =>
      refine q_match (ev_ixT (ev_ixT (ev_var rfl) (ev_var rfl) ha hza) ev_c q at0) fun H1 e1 => m_no (by decide +kernel) (m_no (by decide +kernel) (m_yes ?_))
      exact s_ret (ev_op (ev_fld (ev_var rfl) (e1 _ _ hb) RR.cl RR.nH ruF_hyp) ev_c rv_I0) fun H2 e2 => kz k rfl (e1.trans e2)
    | box q =>
      refine q_match (ev_ixT (ev_ixT (ev_var rfl) (ev_var rfl) ha hza) ev_c q at0) fun H1 e1 => m_no (by decide +kernel) (m_no (by decide +kernel) (m_no (by decide +kernel) (m_end ?_)))
      dsimp only
      exact s_ret ev_c fun H2 e2 => kz k rfl (e1.trans e2)
/-! ### places -/
theorem given_eq {n : Nat} {f : Nat → Bool} {v : Nat → V} : given n f v = ((List.range n).filter f).map v := rfl
abbrev st_all_places : Stmt := top 49
def nm_all_places : List Str := ["row", "rules", "index"]
theorem sc_all_places : FnScope nm_all_places ["row", "rules"] (defScope st_all_places) := ⟨rfl, rfl, rfl, by decide +kernel, rfl, by decide +kernel, by decide +kernel⟩
def sp_all_places (cG cR : Addr) : Sp := spR fun vs H R => ∃ x y r u, vs = [x, y] ∧ RowAt cG H x r ∧ RulesAt cR H y u ∧ r.length ≤ 1000 ∧ R = fun v H2 => LstAt H2 v (natsV (places r u.hyp))
theorem ok_all_places (T : Tx K mg cG cR cL aF) (D : DefAt K mg "all_places" "all_places" "all_places" st_all_places) (c_is_place : Cal P w K mg base "is_place" ["row", "rules", "index"] 2 (sp_is_place cG cR)) : Cal P w K mg base "all_places" ["row", "rules"] 3 (sp_all_places cG cR) := by
  refine cal_of D sc_all_places (fun _ _ _ _ _ _ us hl => match us, hl with | [_, _], _ => rfl) (fun vs H Q E h => ?_) (fun f cdv A outer s H vs Q E hr h => ?_)
  · obtain ⟨v, ⟨x, y, r, u, rfl, _⟩, _⟩ := h
    rfl
  · obtain ⟨R, ⟨x, y, r, u, rfl, ⟨a, ws, rfl, ha, hi⟩, ⟨b, dx, wa, rfl, hb, hw⟩, hlt, rfl⟩, k⟩ := h
    refine ⟨_, (pss_one (ps_ret (pe_lc (own := [("index", 2)]) rfl sc_all_places.nd (pi_range1 rfl T.range_ (pa_cons (pe_callB call_len_seq (by rfl) T.len_ (by decide +kernel) (pa_cons (pv 0) pa_nil)) pa_nil)) (blkOk_by (own := [("index", 2)]) (N := nm_all_places) (sc := defScope st_all_places) (by decide +kernel)) (fun _ _ _ _ _ => (pg_name (i := 2) sc_all_places.nd rfl (Or.inl rfl))) (fun _ _ _ _ _ => (pts_one (pt_val (pe_cal c_is_place (hr.mono (by decide)) (pa_cons (pv 0) (pa_cons (pv 1) (pa_cons (pv 2) pa_nil))))))) (fun _ _ _ _ _ => (pv 2))))), ?_⟩
    have hl := paired_len hi
    refine s_retL (el_lcR1 (n := (r.length : Int)) (isPlace r u.hyp) (fun i => .int (i : Int)) (ea_cons (ev_is (ev_lenS (ev_var rfl) (.inr (st_of ha))) (by rw [hl])) ea_nil) (by omega) (fun _ => rfl) (fun i H1 e1 hn => ?_) fun i H1 e1 hn _ => ev_var rfl) fun p H1 hp e h => k _ H1 e ⟨p, rfl, ?_⟩
    · exact et_B (ev_calV (ea_cons (ev_var rfl) (ea_cons (ev_var rfl) (ea_cons (ev_var rfl) ea_nil))) fun H2 e2 => ⟨_, _, r, u, i, rfl, ⟨a, ws, rfl, e2 _ _ (e1 _ _ ha), hi.mono gSlot_mono (e1.trans e2)⟩, ⟨b, dx, wa, rfl, e2 _ _ (e1 _ _ hb), e2 _ _ (e1 _ _ hw)⟩, by omega, rfl⟩)
    · rw [h, given_eq, Int.toNat_natCast]
      rfl
abbrev st_start_behind : Stmt := top 50
def nm_start_behind : List Str := ["row", "place", "start"]
theorem sc_start_behind : FnScope nm_start_behind ["row", "place"] (defScope st_start_behind) := ⟨rfl, rfl, rfl, by decide +kernel, rfl, by decide +kernel, by decide +kernel⟩
def sp_start_behind (cG : Addr) : Sp := spV fun vs H v => ∃ x r, ∃ p : Int, vs = [x, .int p] ∧ RowAt cG H x r ∧ RowOk r ∧ Pl r p ∧ v = .int (startOf r p : Int)
theorem ok_start_behind (T : Tx K mg cG cR cL aF) (D : DefAt K mg "start_behind" "start_behind" "start_behind" st_start_behind) (c_stays : Cal P w K mg base "stays" ["item"] 1 (sp_stays cG)) (c_is_forced : Cal P w K mg base "is_forced" ["item"] 1 (sp_is_forced cG)) :
    Cal P w K mg base "start_behind" ["row", "place"] 2 (sp_start_behind cG) := by
  refine cal_of D sc_start_behind (fun _ _ _ _ _ _ us hl => match us, hl with | [_, _], _ => rfl) (fun vs H Q E h => ?_) (fun f cdv A outer s H vs Q E hr h => ?_)
  · obtain ⟨v, ⟨x, r, p, rfl, _⟩, _⟩ := h
    rfl
  · obtain ⟨v, ⟨x, r, p, rfl, ⟨a, ws, rfl, ha, hi⟩, ⟨hr0, hrf⟩, hp, rfl⟩, k⟩ := h
    refine ⟨_, (pss_cons (ps_set (i := 2) sc_start_behind.nd rfl (Or.inl rfl) (pe_op op_add (pv 1) pe_int))
      (pss_cons (ps_if (PW.pt (pw_or (pt_cmpR op_eq (pv 1) (pe_un un_neg pe_int) (nomark _)) (pw_or1 (pt_cmpR op_eq (pe_ix ix_tup (pe_ix ix_tup (pv 0) (pv 1) (fun _ _ => rfl)) pe_int (fun _ _ => rfl)) pe_str (nomark _))))) (pss_one (ps_ret (pv 2))) pss_nil)
      (pss_cons (ps_while PassesOwn.never (PW.pt (pw_and (pt_not (pt_val (pe_cal c_stays (hr.mono (by decide)) (pa_cons (pe_ix ix_tup (pv 0) (pv 2) (fun _ _ => rfl)) pa_nil)))) (pw_and1 (pt_not (pt_val (pe_cal c_is_forced (hr.mono (by decide)) (pa_cons (pe_ix ix_tup (pv 0) (pv 2) (fun _ _ => rfl)) pa_nil))))))) (pss_one (ps_aug (i := 2) sc_start_behind.nd rfl (Or.inl rfl) pe_int ip_add)))
      (pss_one (ps_ret (pv 2)))))), ?_⟩
    refine q_asg (ev_op (ev_var rfl) ev_c rv_I0) fun H1 e1 => ?_
    by_cases h0 : p = -1
    · refine q_when (b := true) (et_is (et_or (a := true) (b := true) (et_is (et_test (ev_op (ev_var rfl) (ev_un ev_c ru_neg) (rv_eq rfl))) (by rw [int_dec]; exact decide_eq_true h0)) fun h => nomatch h) rfl) (fun _ H2 e2 => s_ret (ev_var rfl) fun H3 e3 => kz k ?_ ((e1.trans e2).trans e3)) fun h => nomatch h
      unfold startOf
      rw [if_pos h0, h0]
      rfl
    · have hp2 : 0 ≤ p ∧ p < (r.length : Int) - 1 := by
        rcases hp with h | h
        · exact absurd h h0
        · exact h
      obtain ⟨y, hy, hiy⟩ := its_at hi (i := p.toNat) (by omega)
      have hya : atI ws p = some y := at_of (j := p.toNat) (by omega) hy
      obtain ⟨t, xs, rfl, ht⟩ := hiy.tag
      refine q_when (b := (at_ r p.toNat).isPart) (et_is (et_or (a := false) (et_is (et_test (ev_op (ev_var rfl) (ev_un ev_c ru_neg) (rv_eq rfl))) (by rw [int_dec]; exact decide_eq_false h0)) fun _ => et_is (et_test (ev_op (ev_ixT (ev_ixT (ev_var rfl) (ev_var rfl) (e1 _ _ ha) hya) ev_c (e1 _ _ ht) at0) ev_c (rv_eq rfl))) (tag_part _)) (Bool.false_or _))
        (fun hpt H2 e2 => s_ret (ev_var rfl) fun H3 e3 => kz k ?_ ((e1.trans e2).trans e3)) fun hpt H2 e2 => ?_
      · unfold startOf
        rw [if_neg h0, hpt, if_pos rfl]
        congr 1
        omega
      · have es : startOf r p = firstStay r (p.toNat + 1) := by
          unfold startOf
          rw [if_neg h0, hpt, if_neg Bool.false_ne_true]
        refine q_while (fun m σ' H' => ∃ j : Nat, σ' = [some (.ref a), some (.int p), some (.int (j : Int))] ∧ j < r.length ∧ m = r.length - j ∧ firstStay r j = startOf r p ∧ Ex H H') (r.length - (p.toNat + 1)) ⟨p.toNat + 1, ?_, by omega, rfl, es.symm, e1.trans e2⟩ ?_
        · show [some (V.ref a), some (V.int p), some (V.int (p + 1))] = [some (V.ref a), some (V.int p), some (V.int ((p.toNat + 1 : Nat) : Int))]
          congr 5
          omega
        · rintro m σ' H' ⟨j, rfl, hj, rfl, hfs, eH⟩
          obtain ⟨z, hz, hit⟩ := its_at hi hj
          have hza : atI ws (j : Int) = some z := atI_nat hz
          refine ⟨!(at_ r j).stays && !(at_ r j).forced, ?_, fun hb H3 e3 => ?_, fun hb H3 e3 => ?_⟩
          · exact et_and (et_not (et_B (ev_calV (ea_cons (ev_ixT (ev_var rfl) (ev_var rfl) (eH _ _ ha) hza) ea_nil) fun H2 e2 => ⟨_, _, rfl, hit.mono gSlot_mono (eH.trans e2), rfl⟩))) fun _ => et_not (et_B (ev_calV (ea_cons (ev_ixT (ev_var rfl) (ev_var rfl) (eH _ _ ha) hza) ea_nil) fun H2 e2 => ⟨_, _, rfl, hit.mono gSlot_mono (eH.trans e2), rfl⟩))
          · simp only [Bool.and_eq_true, Bool.not_eq_true'] at hb
            have hj2 : j + 1 < r.length := by
              rcases Nat.lt_or_ge (j + 1) r.length with h | h
              · exact h
              · have e : j = r.length - 1 := by omega
                rw [e, hrf] at hb
                exact nomatch hb.2
            refine ⟨_, fun _ _ h => h, s_aug rfl ev_c fun H4 e4 => ⟨_, ?_, j + 1, rfl, hj2, rfl, ?_, (eH.trans e3).trans e4⟩⟩
            · omega
            · rw [← hfs, firstStay_next hj hb.1 hb.2]
          · refine s_ret (ev_var rfl) fun H4 e4 => kz k ?_ ((eH.trans e3).trans e4)
            have hb2 : ((at_ r j).stays || (at_ r j).forced) = true := by
              cases h1 : (at_ r j).stays with
              | true => rfl
              | false =>
                rw [h1] at hb
                cases h2 : (at_ r j).forced with
                | true => rfl
                | false =>
                  rw [h2] at hb
                  cases hb
            rw [← hfs, firstStay_here hj hb2]
abbrev st_places_behind : Stmt := top 51
def nm_places_behind : List Str := ["row", "rules", "place", "found", "index"]
theorem sc_places_behind : FnScope nm_places_behind ["row", "rules", "place"] (defScope st_places_behind) := ⟨rfl, rfl, rfl, by decide +kernel, rfl, by decide +kernel, by decide +kernel⟩
def sp_places_behind (cG cR : Addr) : Sp := spR fun vs H R => ∃ x y r u, ∃ p : Int, vs = [x, y, .int p] ∧ RowAt cG H x r ∧ RulesAt cR H y u ∧ RowOk r ∧ Pl r p ∧ r.length ≤ 1000 ∧ R = fun v H2 => LstAt H2 v (natsV (nexts r u.hyp p))
theorem ok_places_behind (T : Tx K mg cG cR cL aF) (D : DefAt K mg "places_behind" "places_behind" "places_behind" st_places_behind) (c_start_behind : Cal P w K mg base "start_behind" ["row", "place"] 2 (sp_start_behind cG))
    (c_is_place : Cal P w K mg base "is_place" ["row", "rules", "index"] 2 (sp_is_place cG cR)) (c_is_forced : Cal P w K mg base "is_forced" ["item"] 1 (sp_is_forced cG)) : Cal P w K mg base "places_behind" ["row", "rules", "place"] 3 (sp_places_behind cG cR) := by
  refine cal_of D sc_places_behind (fun _ _ _ _ _ _ us hl => match us, hl with | [_, _, _], _ => rfl) (fun vs H Q E h => ?_) (fun f cdv A outer s H vs Q E hr h => ?_)
  · obtain ⟨v, ⟨x, y, r, u, p, rfl, _⟩, _⟩ := h
    rfl
  · obtain ⟨R, ⟨x, y, r, u, p, rfl, ⟨a, ws, rfl, ha, hi⟩, ⟨b, dx, wa, rfl, hb, hw⟩, hro, hp, hlt, rfl⟩, k⟩ := h
    refine ⟨_, (pss_cons (ps_set (i := 3) sc_places_behind.nd rfl (Or.inl rfl) (pe_lst pa_nil))
      (pss_cons (ps_for PassesOwn.never rfl (pi_range2 rfl T.range_ (pa_cons (pe_cal c_start_behind (hr.mono (by decide)) (pa_cons (pv 0) (pa_cons (pv 2) pa_nil))) (pa_cons (pe_callB call_len_seq (by rfl) T.len_ (by decide +kernel) (pa_cons (pv 0) pa_nil)) pa_nil))) (pg_name (i := 4) sc_places_behind.nd rfl (Or.inl rfl)) (pss_cons (ps_if (pt_val (pe_cal c_is_place (hr.mono (by decide)) (pa_cons (pv 0) (pa_cons (pv 1) (pa_cons (pv 4) pa_nil))))) (pss_one (ps_expr (pe_bm PySem.F.plainAttrs_list PySem.F.slot_list_append PySem.F.type_list_append mt_append (pv 3) (pa_cons (pv 4) pa_nil)))) pss_nil)
      (pss_one (ps_if (pt_val (pe_cal c_is_forced (hr.mono (by decide)) (pa_cons (pe_ix ix_tup (pv 0) (pv 4) (fun _ _ => rfl)) pa_nil))) (pss_one ps_break) pss_nil))))
      (pss_one (ps_ret (pv 3))))), ?_⟩
    have hl := paired_len hi
    have hs := startOf_le hro.1 hp
    have preL : ∀ i, (pre r u.hyp (startOf r p) i).length ≤ i := fun i => by
      unfold pre
      have := List.length_filter_le (isPlace r u.hyp) (List.range' (startOf r p) i)
      rwa [List.length_range'] at this
    refine q_asgL (el_lst ea_nil (by decide)) fun l H1 hl1 e1 h1 => ?_
    refine q_forR2 (lo := (startOf r p : Int)) (n := (r.length : Int)) (ea_cons (ev_calV (ea_cons (ev_var rfl) (ea_cons (ev_var rfl) ea_nil)) fun H2 e2 => ⟨_, r, p, rfl, ⟨a, ws, rfl, e2 _ _ (e1 _ _ ha), hi.mono gSlot_mono (e1.trans e2)⟩, hro, hp, rfl⟩) (ea_cons (ev_is (ev_lenS (ev_var rfl) (.inr (st_of (e1 _ _ ha)))) (by rw [hl])) ea_nil)) ⟨by omega, by omega, by omega, by omega⟩
      (fun i σ' H' => (∃ o, σ' = [some (.ref a), some (.ref b), some (.int p), some (.ref l), o]) ∧ Ex H H' ∧ H' l = some (.lst (natsV (pre r u.hyp (startOf r p) i))) ∧ ∀ j, j < i → (at_ r (startOf r p + j)).forced = false) (fun H2 e2 => ⟨⟨none, rfl⟩, e1.trans e2, e2 _ _ h1, fun j hj => absurd hj (Nat.not_lt_zero _)⟩) ?_ ?_
    · rintro i σ' H' hi2 ⟨⟨o, rfl⟩, eH, hlH, hnf⟩
      have hlt2 : startOf r p + i < r.length := by omega
      have ei : ((startOf r p : Int) + (i : Int)) = ((startOf r p + i : Nat) : Int) := by omega
      rw [ei]
      obtain ⟨z, hz, hit⟩ := its_at hi hlt2
      have hza : atI ws ((startOf r p + i : Nat) : Int) = some z := atI_nat hz
      have nl : H l = none := hl1
      -- behind the first if
      have tail : ∀ H2, Ex H H2 → H2 l = some (.lst (natsV (pre r u.hyp (startOf r p) (i + 1)))) → ∀ D : Ends, (∀ H3, Ex H H3 → H3 l = some (.lst (natsV (pre r u.hyp (startOf r p) (i + 1)))) → ((at_ r (startOf r p + i)).forced = true → D.bk [some (.ref a), some (.ref b), some (.int p), some (.ref l), some (.int ((startOf r p + i : Nat) : Int))] H3) ∧ ((at_ r (startOf r p + i)).forced = false → D.nx [some (.ref a), some (.ref b), some (.int p), some (.ref l), some (.int ((startOf r p + i : Nat) : Int))] H3)) →
          tIfS (tB (tCall (sp_is_forced cG) [] E0 (tCons (tOp (rIxT K) (tVar 0) (tVar 4)) tNil))) tBreak tNext D [some (.ref a), some (.ref b), some (.int p), some (.ref l), some (.int ((startOf r p + i : Nat) : Int))] H2 := fun H2 e2 h2 D hD => by
        refine s_if (b := (at_ r (startOf r p + i)).forced) (et_B (ev_calV (ea_cons (ev_ixT (ev_var rfl) (ev_var rfl) (e2 _ _ ha) hza) ea_nil) fun H3 e3 => ⟨_, _, rfl, hit.mono gSlot_mono (e2.trans e3), rfl⟩)) (fun hf H3 e3 => ?_) fun hf H3 e3 => ?_
        · exact (hD H3 (e2.trans e3) (e3 _ _ h2)).1 hf
        · exact (hD H3 (e2.trans e3) (e3 _ _ h2)).2 hf
      refine q_when (b := isPlace r u.hyp (startOf r p + i)) (et_B (ev_calV (ea_cons (ev_var rfl) (ea_cons (ev_var rfl) (ea_cons (ev_var rfl) ea_nil))) fun H2 e2 => ⟨_, _, r, u, _, rfl, ⟨a, ws, rfl, e2 _ _ (eH _ _ ha), hi.mono gSlot_mono (eH.trans e2)⟩, ⟨b, dx, wa, rfl, e2 _ _ (eH _ _ hb), e2 _ _ (eH _ _ hw)⟩, hlt2, rfl⟩)) (fun hpl H2 e2 => ?_) fun hpl H2 e2 => ?_
      · refine s_app (e2 _ _ hlH) (ev_var rfl) (ev_var rfl) ?_ fun H3 e3 => ?_
        · show (natsV (pre r u.hyp (startOf r p) i)).length < 100000
          unfold natsV
          rw [List.length_map]
          have := preL i
          omega
        · refine tail _ (Ex.mut ((eH.trans e2).trans e3) nl) ?_ _ fun H4 e4 h4 => ⟨fun hf => ?_, fun hf => ?_⟩
          · rw [upd_same, pre_succ, hpl, if_pos rfl]
            unfold natsV
            rw [List.map_append]
            rfl
          · refine s_ret (ev_var rfl) fun H5 e5 => k _ H5 (e4.trans e5) ⟨l, rfl, ?_⟩
            rw [e5 _ _ h4, nexts_hit hlt2 hnf hf]
          · refine ⟨⟨_, rfl⟩, e4, h4, fun j hj => ?_⟩
            by_cases e : j = i
            · rw [e]
              exact hf
            · exact hnf j (by omega)
      · refine tail _ (eH.trans e2) ?_ _ fun H4 e4 h4 => ⟨fun hf => ?_, fun hf => ?_⟩
        · rw [e2 _ _ hlH, pre_succ, hpl, if_neg Bool.false_ne_true, List.append_nil]
        · rw [forced_place hf] at hpl
          cases hpl
        · refine ⟨⟨_, rfl⟩, e4, h4, fun j hj => ?_⟩
          by_cases e : j = i
          · rw [e]
            exact hf
          · exact hnf j (by omega)
    · rintro σ' H' ⟨⟨o, rfl⟩, eH, hlH, hnf⟩
      have hn : ((r.length : Int) - (startOf r p : Int)).toNat = r.length - startOf r p := by omega
      rw [hn] at hlH hnf
      refine s_ret (ev_var rfl) fun H2 e2 => k _ H2 (eH.trans e2) ⟨l, rfl, ?_⟩
      rw [e2 _ _ hlH, nexts_all (by omega) fun j hj => hnf j (by omega)]
end
end K51
set_option Elab.async false
set_option linter.all false
set_option maxRecDepth 100000
set_option maxHeartbeats 4000000
namespace K51
open PySem PySem.Spec PyProof.Rows L2 Evl
/-! ### methods, instances made -/
structure CalM (P : Program) (w : World) (K : PySem.W.Frag) (mg : Str → Option Value) (base : Heap) (C : Addr) (m : Str) (ps : List Str) (k : Nat) (sp : Sp) : Prop where
  ex : ∃ f fd, FnOk P w K mg base CX0 k f fd ps sp ∧ Meth K C m f ∧ Binds K fd ps []
/-- C(e, ..): the class at C, its __init__'s promise -/
structure CalI (P : Program) (w : World) (K : PySem.W.Frag) (mg : Str → Option Value) (base : Heap) (C : Addr) (ps : List Str) (k : Nat) (sp : Sp) : Prop where
  ex : ∃ f fd, FnOk P w K mg base CX0 k f fd ps sp ∧ Mk K C f ∧ Binds K fd ps []
/-- the method m of the class at C is the def at st -/
def DefM (K : PySem.W.Frag) (C : Addr) (m x qual : Str) (st : Stmt) : Prop := ∃ f fd, FunD K x qual (defArgs st) (defBody st) (defScope st) [] [] f fd ∧ Meth K C m f
/-- the class at C is made by the def at st -/
def DefI (K : PySem.W.Frag) (C : Addr) (x qual : Str) (st : Stmt) : Prop := ∃ f fd, FunD K x qual (defArgs st) (defBody st) (defScope st) [] [] f fd ∧ Mk K C f
section
variable {P : Program} {w : World} {K : PySem.W.Frag} {mg : Str → Option Value} {base : Heap} {C : Addr} {m x qual : Str} {st : Stmt} {N ps : List Str} {k : Nat} {sp : Sp}
theorem calm_of (D : DefM K C m x qual st) (S : FnScope N ps (defScope st))
    (hbind : ∀ (kV doc pm : Value) (an : Option Addr) (cdv ct : Value) (us : List Value), us.length = ps.length → bindArgs (PySem.W.fnOf x qual (defArgs st) (defBody st) (defScope st) .none kV doc pm an cdv ct) ⟨us, []⟩ = pure (ps.zip us))
    (len : ∀ vs H Q E, sp vs H Q E → vs.length = ps.length)
    (hbody : ∀ (f : Addr) (cdv : Value) (A : Around) (outer : List Env) (s : Shared) (H : Hp) (vs : List V) (Q : VK) (E : XK), Room k (A.deeper (envOfC qual (defScope st) s.heap.objs.size f cdv)) → sp vs H Q E →
      ∃ t, PSs (cxOf CX0 P w K mg base N qual (defScope st) f cdv A outer s H E).nox (defBody st) t ∧ t { nx := fun _ H' => Q .non H', rt := Q } (start N vs) H) : CalM P w K mg base C m ps (k + 1) sp := by
  obtain ⟨f, fd, F, hm⟩ := D
  refine ⟨f, fd, F.ok S len (fun cdv A outer s H vs Q E hr h => ?_), hm, F.bindsN hbind⟩
  obtain ⟨t, a, b⟩ := hbody f cdv A outer s H vs Q E hr h
  exact ⟨t, PSs.nox a, b⟩
theorem cali_of (D : DefI K C x qual st) (S : FnScope N ps (defScope st))
    (hbind : ∀ (kV doc pm : Value) (an : Option Addr) (cdv ct : Value) (us : List Value), us.length = ps.length → bindArgs (PySem.W.fnOf x qual (defArgs st) (defBody st) (defScope st) .none kV doc pm an cdv ct) ⟨us, []⟩ = pure (ps.zip us))
    (len : ∀ vs H Q E, sp vs H Q E → vs.length = ps.length)
    (hbody : ∀ (f : Addr) (cdv : Value) (A : Around) (outer : List Env) (s : Shared) (H : Hp) (vs : List V) (Q : VK) (E : XK), Room k (A.deeper (envOfC qual (defScope st) s.heap.objs.size f cdv)) → sp vs H Q E →
      ∃ t, PSs (cxOf CX0 P w K mg base N qual (defScope st) f cdv A outer s H E).nox (defBody st) t ∧ t { nx := fun _ H' => Q .non H', rt := Q } (start N vs) H) : CalI P w K mg base C ps (k + 1) sp := by
  obtain ⟨f, fd, F, hm⟩ := D
  refine ⟨f, fd, F.ok S len (fun cdv A outer s H vs Q E hr h => ?_), hm, F.bindsN hbind⟩
  obtain ⟨t, a, b⟩ := hbody f cdv A outer s H vs Q E hr h
  exact ⟨t, PSs.nox a, b⟩
end
section
variable {X : Cx} {C : Addr} {m x : Str} {o e : Expr} {es : List Expr} {pos apos p : Pos} {t : TA} {ta : TE} {ps : List Str} {k : Nat} {sp : Sp}
theorem pe_calm {pl : Sem Bool} (M : CalM X.prog X.w X.K X.mg X.base C m ps k sp) (c : Cls X.K C) (hr : Room k X.A) (he : PE X o ta) (ha : PA X (e :: es) t)
    (hst : starEach (e :: es) X.env = (false, eval e X.env) :: starEach es X.env := by rfl) (hpl : (backTo pos (starEach es X.env)).any (·.1) = false := by rfl)
    (ht : eval (.Call (.Attribute o m apos) (e :: es) [] pos) X.env = (do
      let ov ← eval o X.env
      standAt apos.atName
      let (f, first) ← holding [ov] (getMethod ov m pl)
      callWith pos f first (backTo pos (starEach (e :: es) X.env)) (backToKw pos (keywordEach [] X.env))) := by rfl) :
    PE X (.Call (.Attribute o m apos) (e :: es) [] pos) (tMeth C m sp [] E0 ta t) := by
  obtain ⟨f, fd, F, hm, hb⟩ := M.ex
  exact pe_meth he c hm F hr hb .nil pass0 ha hst hpl ht
theorem pe_calm0 {pl : Sem Bool} (M : CalM X.prog X.w X.K X.mg X.base C m ps k sp) (c : Cls X.K C) (hr : Room k X.A) (he : PE X o ta)
    (ht : eval (.Call (.Attribute o m apos) [] [] pos) X.env = (do
      let ov ← eval o X.env
      standAt apos.atName
      let (f, first) ← holding [ov] (getMethod ov m pl)
      callWith pos f first (backTo pos (starEach [] X.env)) (backToKw pos (keywordEach [] X.env))) := by rfl) :
    PE X (.Call (.Attribute o m apos) [] [] pos) (tMeth C m sp [] E0 ta tNil) := by
  obtain ⟨f, fd, F, hm, hb⟩ := M.ex
  exact pe_meth0 he c hm F hr hb .nil pass0 ht
theorem pe_cali (M : CalI X.prog X.w X.K X.mg X.base C ps k sp) (hm : X.mg x = some (.ref C)) (hr : Room (k + 1) X.A) (ha : PA X (e :: es) t) (hg : Gl X x := by rfl) (hdb : (x == ("__debug__" : Str)) = false := by decide)
    (he : starEach (e :: es) X.env = (false, eval e X.env) :: starEach es X.env := by rfl) (hpl : (backTo pos (starEach es X.env)).any (·.1) = false := by rfl) : PE X (.Call (.Name x p) (e :: es) [] pos) (tMake C sp [] E0 t) := by
  obtain ⟨f, fd, F, hk, hb⟩ := M.ex
  exact pe_make hk F hr hg hm hb .nil pass0 ha hdb he hpl
end
section
variable {K : PySem.W.Frag} {σ : L2.St} {H : Hp} {ta tb te tl : TE} {t u : TT} {x y z v : V} {D : Ends} {tz : TS}
/-- a method's value -/
theorem ev_meth0 {a C dx : Addr} {m : Str} {fs : List (Str × V)} {f : List V → Hp → V → Prop} (ha : Ev ta σ H (.ref a)) (ho : H a = some (.ins C dx fs)) (hl : fs.lookup m = none) (hf : ∀ H1, Ex H H1 → f [.ref a] H1 z) : Ev (tMeth C m (spV f) [] E0 ta tNil) σ H z := fun H1 e Q q =>
  ha H1 e _ fun H2 e2 => ⟨a, dx, fs, rfl, e2 _ _ (e _ _ ho), hl, z, hf H2 (e.trans e2), fun H3 e3 => q H3 (e2.trans e3)⟩
theorem ev_meth {a C dx : Addr} {m : Str} {fs : List (Str × V)} {tr : TA} {vs : List V} {f : List V → Hp → V → Prop} (ha : Ev ta σ H (.ref a)) (ho : H a = some (.ins C dx fs)) (hl : fs.lookup m = none) (hr : EvA tr σ H vs) (hf : ∀ H1, Ex H H1 → f (.ref a :: vs) H1 z) : Ev (tMeth C m (spV f) [] E0 ta tr) σ H z := fun H1 e Q q =>
  ha H1 e _ fun H2 e2 => ⟨a, dx, fs, rfl, e2 _ _ (e _ _ ho), hl, hr H2 (e.trans e2) _ fun H3 e3 => ⟨z, by rw [List.append_nil]; exact hf H3 ((e.trans e2).trans e3), fun H4 e4 => q H4 ((e2.trans e3).trans e4)⟩⟩
/-- o.f = e, o's object known -/
theorem q_fld {a C dx : Addr} {f : Str} {fs : List (Str × V)} (hv : Ev te σ H v) (ha : Ev ta σ H (.ref a)) (ho : H a = some (.ins C dx fs)) (hc : Cls K C) (hn : NoAttr K C f) (hl : fs.length < 1000) (k : ∀ H1, Ex H H1 → tz D σ (upd H1 a (.ins C dx (putF f v fs)))) : tSeq (sFld K ta te f) tz D σ H :=
  hv H (Ex.refl H) _ fun H1 e1 => ha H1 e1 _ fun H2 e2 => ⟨a, C, dx, fs, rfl, e2 _ _ (e1 _ _ ho), hc, hn, hl, k H2 (e1.trans e2)⟩
theorem s_fld {a C dx : Addr} {f : Str} {fs : List (Str × V)} (hv : Ev te σ H v) (ha : Ev ta σ H (.ref a)) (ho : H a = some (.ins C dx fs)) (hc : Cls K C) (hn : NoAttr K C f) (hl : fs.length < 1000) (k : ∀ H1, Ex H H1 → D.nx σ (upd H1 a (.ins C dx (putF f v fs)))) : sFld K ta te f D σ H :=
  hv H (Ex.refl H) _ fun H1 e1 => ha H1 e1 _ fun H2 e2 => ⟨a, C, dx, fs, rfl, e2 _ _ (e1 _ _ ho), hc, hn, hl, k H2 (e1.trans e2)⟩
theorem q_fldR {a C dx : Addr} {f : Str} {fs : List (Str × V)} {R : V → Hp → Prop} (hv : EvR te σ H R) (ha : ∀ H1, Ex H H1 → Ev ta σ H1 (.ref a)) (ho : H a = some (.ins C dx fs)) (hc : Cls K C) (hn : NoAttr K C f) (hl : fs.length < 1000) (k : ∀ v H1 H2, Ex H H1 → R v H1 → Ex H1 H2 → tz D σ (upd H2 a (.ins C dx (putF f v fs)))) : tSeq (sFld K ta te f) tz D σ H :=
  hv H (Ex.refl H) _ fun v H1 e1 r => ha H1 e1 H1 (Ex.refl H1) _ fun H2 e2 => ⟨a, C, dx, fs, rfl, e2 _ _ (e1 _ _ ho), hc, hn, hl, k v H1 H2 e1 r e2⟩
/-! ### sequences -/
theorem cutV_nat {xs : List V} {a b : Nat} (ha : a ≤ xs.length) (hb : b ≤ xs.length) : cutV xs (some (a : Int)) (some (b : Int)) = (xs.drop a).take (b - a) := by
  unfold cutV
  rw [HT.sIx_nat, HT.sIx_nat, Nat.min_eq_left ha, Nat.min_eq_left hb]
theorem cutV_from {xs : List V} {a : Nat} (ha : a ≤ xs.length) : cutV xs (some (a : Int)) none = xs.drop a := by
  unfold cutV
  rw [HT.sIx_nat, HT.sIx_none, Nat.min_eq_left ha, List.take_of_length_le (by rw [List.length_drop]; exact Nat.le_refl _)]
/-- a slice of a tuple, new or the tuple itself -/
theorem er_slT {tlo thi : TO} {a : Addr} {xs ys : List V} {lo hi : Option Int} (h : Ev te σ H (.ref a)) (h1 : EvO tlo σ H lo) (h2 : EvO thi σ H hi) (hs : H a = some (.tup xs)) (hc : cutV xs lo hi = ys) : EvR (tSl (rSlA K) te tlo thi) σ H (fun v H2 => TupAt H2 v ys) := fun H1 e Q q =>
  h H1 e _ fun H2 e2 => h1 H2 (e.trans e2) _ fun H3 e3 => h2 H3 ((e.trans e2).trans e3) _ fun H4 e4 => by
    have ha := e4 _ _ (e3 _ _ (e2 _ _ (e _ _ hs)))
    refine ⟨a, xs, rfl, st_of ha, fun hw => q _ H4 ((e2.trans e3).trans e4) ⟨a, rfl, ?_⟩, fun hw p hp => q _ _ (((e2.trans e3).trans e4).trans (Ex.new hp)) ⟨p, rfl, by rw [upd_same, hc]⟩⟩
    have : ys = xs := by
      rw [← hc]
      unfold cutV
      rw [hw.1, hw.2, List.drop_zero, Nat.sub_zero, List.take_length]
    rw [this]
    exact ha
end
/-! ### comprehensions -/
section
variable {α : Type} {K : PySem.W.Frag} {σ : L2.St} {H : Hp} {te tl : TE} {t : TT} {g : TG} {vs : List Nat}
/-- one turn: the target stored, the test, the element -/
def TurnR (R : Hp → V → α → Prop) (g : TG) (t : TT) (te : TE) (vs : List Nat) (σ : L2.St) (x : V) (H1 : Hp) (o1 o2 : List α) : Prop :=
  ∃ (σ2 : L2.St) (b : Bool), (∀ Q : L2.St → Hp → Prop, Q σ2 H1 → g x (wipe σ vs) H1 Q) ∧ wipe σ2 vs = wipe σ vs ∧ EvT t σ2 H1 b ∧ (b = true → ∃ y, EvR te σ2 H1 (fun v H' => R H' v y) ∧ o2 = o1 ++ [y]) ∧ (b = false → o2 = o1)
def CwR (R : Hp → V → α → Prop) (H : Hp) (out : Nat → List α) (Dl : Addr) (i : Nat) (H' : Hp) : Prop := H Dl = none ∧ Ex H H' ∧ ∃ acc, H' Dl = some (.lst acc) ∧ Paired (R H') acc (out i)
theorem cwr_turn {R : Hp → V → α → Prop} (mono : RMono R) {out : Nat → List α} {Dl : Addr} {i : Nat} {x : V} {H' : Hp} (p : CwR R H out Dl i H') (hl : (out i).length < 1000000) (ht : ∀ H1, Ex H H1 → TurnR R g t te vs σ x H1 (out i) (out (i + 1))) :
    g x (wipe σ vs) H' fun σ2 H2 => wipe σ2 vs = wipe σ vs ∧ t σ2 H2 fun b H3 => if b = true then te σ2 H3 fun y H4 => ∃ acc, H4 Dl = some (.lst acc) ∧ acc.length < sizeLine ∧ CwR R H out Dl (i + 1) (upd H4 Dl (.lst (acc ++ [y]))) else CwR R H out Dl (i + 1) H3 := by
  obtain ⟨p1, p2, acc, p3, p4⟩ := p
  obtain ⟨σ2, b, h1, h2, h3, h4, h5⟩ := ht H' p2
  refine h1 _ ⟨h2, h3 H' (Ex.refl H') _ fun H3 e3 => ?_⟩
  cases b with
  | true =>
    obtain ⟨y, e, ho⟩ := h4 rfl
    show te σ2 H3 fun y H4 => ∃ acc, H4 Dl = some (.lst acc) ∧ acc.length < sizeLine ∧ CwR R H out Dl (i + 1) (upd H4 Dl (.lst (acc ++ [y])))
    refine e H3 e3 _ fun v H4 e4 r => ⟨acc, e4 Dl _ (e3 Dl _ p3), ?_, p1, Ex.mut ((p2.trans e3).trans e4) p1, acc ++ [v], upd_same, ?_⟩
    · rw [paired_len p4]
      exact Nat.lt_trans hl (by decide)
    · rw [ho]
      have h4 : H4 Dl = some (.lst acc) := e4 Dl _ (e3 Dl _ p3)
      exact PySem.Paired.snoc (Paired.mapP p4 fun _ _ q => mono _ _ _ _ ((ExI.of (e3.trans e4)).trans (ExI.lst h4)) q) (mono _ _ _ _ (ExI.lst h4) r)
  | false =>
    show CwR R H out Dl (i + 1) H3
    refine ⟨p1, p2.trans e3, acc, e3 Dl _ p3, ?_⟩
    rw [h5 rfl]
    exact Paired.mapP p4 fun _ _ q => mono _ _ _ _ (.of e3) q
/-- over a list -/
theorem er_lcL {R : Hp → V → α → Prop} (mono : RMono R) {xs : List V} (out : Nat → List α) (h0 : out 0 = []) (hb : ∀ i, (out i).length < 1000000) (h : EvR tl σ H (fun w H' => LstAt H' w xs))
    (ht : ∀ i x H1, Ex H H1 → xs[i]? = some x → TurnR R g t te vs σ x H1 (out i) (out (i + 1))) : EvR (tLc (iList K tl) g t te vs) σ H (fun v H' => LstR R H' v (out xs.length)) := fun H0 e Q q =>
  h H0 e _ fun w H1 e1 hw => by
    obtain ⟨a, rfl, ha⟩ := hw
    exact ⟨a, rfl, ⟨xs, sq_of ha⟩, fun Dl hD => lc_list (xs := xs) (CwR R H1 out Dl) ⟨hD, Ex.new hD, [], upd_same, by rw [h0]; exact .nil⟩ (fun i H' _ p => sq_of (p.2.1 _ _ ha))
      (fun i x H' hi p => cwr_turn mono p (hb i) fun H2 e2 => ht i x H2 ((e.trans e1).trans e2) hi) fun H' p => by
        obtain ⟨p1, p2, acc, p3, p4⟩ := p
        exact q _ H' (e1.trans p2) ⟨Dl, acc, rfl, p3, p4⟩⟩
/-- over a tuple -/
theorem er_lcT {R : Hp → V → α → Prop} (mono : RMono R) {xs : List V} (out : Nat → List α) (h0 : out 0 = []) (hb : ∀ i, (out i).length < 1000000) (h : EvR tl σ H (fun w H' => TupAt H' w xs))
    (ht : ∀ i x H1, Ex H H1 → xs[i]? = some x → TurnR R g t te vs σ x H1 (out i) (out (i + 1))) : EvR (tLc (iTup K tl) g t te vs) σ H (fun v H' => LstR R H' v (out xs.length)) := fun H0 e Q q =>
  h H0 e _ fun w H1 e1 hw => by
    obtain ⟨a, rfl, ha⟩ := hw
    exact ⟨a, rfl, ⟨xs, st_of ha⟩, fun Dl hD => lc_tup (xs := xs) (CwR R H1 out Dl) ⟨hD, Ex.new hD, [], upd_same, by rw [h0]; exact .nil⟩ (fun i H' _ p => st_of (p.2.1 _ _ ha))
      (fun i x H' hi p => cwr_turn mono p (hb i) fun H2 e2 => ht i x H2 ((e.trans e1).trans e2) hi) fun H' p => by
        obtain ⟨p1, p2, acc, p3, p4⟩ := p
        exact q _ H' (e1.trans p2) ⟨Dl, acc, rfl, p3, p4⟩⟩
/-- over a range from 0 -/
theorem er_lcR1 {R : Hp → V → α → Prop} (mono : RMono R) {ta : TA} {n : Nat} (out : Nat → List α) (h0 : out 0 = []) (hb : ∀ i, (out i).length < 1000000) (h : EvA ta σ H [.int (n : Int)]) (hn : n ≤ 100000)
    (ht : ∀ i H1, Ex H H1 → i < n → TurnR R g t te vs σ (.int (i : Int)) H1 (out i) (out (i + 1))) : EvR (tLc (iRng1 ta) g t te vs) σ H (fun v H' => LstR R H' v (out n)) := fun H0 e Q q =>
  h H0 e _ fun H1 e1 => ⟨(n : Int), rfl, by omega, by omega, fun Dl hD => by
    rw [Int.toNat_natCast]
    exact lc_range (lo := 0) (n := n) (CwR R H1 out Dl) ⟨hD, Ex.new hD, [], upd_same, by rw [h0]; exact .nil⟩
      (fun i H' hi p => by
        rw [Int.zero_add]
        exact cwr_turn mono p (hb i) fun H2 e2 => ht i H2 ((e.trans e1).trans e2) hi) fun H' p => by
        obtain ⟨p1, p2, acc, p3, p4⟩ := p
        exact q _ H' (e1.trans p2) ⟨Dl, acc, rfl, p3, p4⟩⟩
/-- the turn of a comprehension whose target is a name -/
theorem turn_name {R : Hp → V → α → Prop} {j : Nat} {x : V} {H1 : Hp} {o1 o2 : List α} {b : Bool} (hw : wipe ((wipe σ vs).set j (some x)) vs = wipe σ vs) (ht : EvT t ((wipe σ vs).set j (some x)) H1 b) (h1 : b = true → ∃ y, EvR te ((wipe σ vs).set j (some x)) H1 (fun v H' => R H' v y) ∧ o2 = o1 ++ [y]) (h2 : b = false → o2 = o1) :
    TurnR R (gName j) t te vs σ x H1 o1 o2 := ⟨_, b, fun _ h => h, hw, ht, h1, h2⟩
/-- .. is two names, the item a pair -/
theorem turn_two {R : Hp → V → α → Prop} {i j : Nat} {x y z : V} {H1 : Hp} {o1 o2 : List α} {b : Bool} (hx : TupAt H1 x [y, z]) (hw : wipe (((wipe σ vs).set i (some y)).set j (some z)) vs = wipe σ vs) (ht : EvT t (((wipe σ vs).set i (some y)).set j (some z)) H1 b) (h1 : b = true → ∃ u, EvR te (((wipe σ vs).set i (some y)).set j (some z)) H1 (fun v H' => R H' v u) ∧ o2 = o1 ++ [u]) (h2 : b = false → o2 = o1) :
    TurnR R (gTup K 2 (gCons (gName i) (gCons (gName j) gNil))) t te vs σ x H1 o1 o2 := by
  obtain ⟨a, rfl, ha⟩ := hx
  exact ⟨_, b, fun Q h => ⟨a, _, rfl, st_of ha, rfl, y, _, rfl, z, _, rfl, rfl, h⟩, hw, ht, h1, h2⟩
theorem et_yes : EvT tYes σ H true := fun H1 e Q q => q H1 (Ex.refl H1)
theorem er_of {v : V} (h : Ev te σ H v) {R : V → Hp → Prop} (hr : ∀ H1, Ex H H1 → R v H1) : EvR te σ H R := fun H1 e Q q => h H1 e _ fun H2 e2 => q v H2 e2 (hr H2 (e.trans e2))
theorem er_tup {ta : TA} {ws : List V} (h : EvA ta σ H ws) (hl : ws.length ≤ 100000) : EvR (tTup ta) σ H (fun v H' => TupAt H' v ws) := fun H1 e Q q => eu_tup h hl H1 e _ fun p H2 _ e2 h2 => q _ H2 e2 ⟨p, rfl, h2⟩
/-- the outputs: those of the first i items -/
theorem out_filter {β : Type} (p : β → Bool) (f : β → α) (ys : List β) (i : Nat) {y : β} (h : ys[i]? = some y) : ((ys.take (i + 1)).filter p).map f = ((ys.take i).filter p).map f ++ (if p y then [f y] else []) := by
  rw [List.take_succ, h, List.filter_append, List.map_append]
  congr 1
  show (List.filter p [y]).map f = _
  rw [List.filter_cons, List.filter_nil]
  split <;> rfl
end
end K51
namespace K51
open PySem PySem.Spec PyProof.Rows L2 Evl
/-! ### rules whose reading names the written part (for a comprehension's block) -/
section
variable {X : Cx} {K : PySem.W.Frag}
theorem ix_tupK (h : X.K = K) : IxR X (rIxT K) := h ▸ ix_tup
theorem ix_listK (h : X.K = K) : IxR X (rIxL K) := h ▸ ix_list
theorem cr_sumK (h : X.K = K) (hc : X.calm = true) : CallR X (.builtin "sum") (rSum K) := h ▸ cr_sum hc
theorem call_isiKK (h : X.K = K) : CallR X (.builtin "isinstance") (rIsi K) := h ▸ call_isi
theorem call_len_seqK (h : X.K = K) : CallR X (.builtin "len") (fun xs H Q => ∃ p ys, xs = [.ref p] ∧ (SqL K H p ys ∨ SqT K H p ys) ∧ Q (.int ys.length) H) := h ▸ call_len_seq
theorem pi_listK {tg l : Expr} {tl : TE} (h : X.K = K) (hl : PE X l tl) : PI X tg l (iList K tl) := h ▸ pi_list hl
theorem pg_tupK {es : List Expr} {k : Nat} {pos : Pos} {n : Nat} {t : TGs} (h : X.K = K) (hp : PG X (.Tuple es k pos) (gTup X.K n t)) : PG X (.Tuple es k pos) (gTup K n t) := h ▸ hp
theorem pe_fldK {e : Expr} {f : Str} {pos : Pos} {ta : TE} (h : X.K = K) (he : PE X e ta) (hb : attributeBase e f X.env (eval e X.env) = eval e X.env) : PE X (.Attribute e f pos) (tFld K ta f) := h ▸ pe_fld he hb
end
end K51
set_option Elab.async false
set_option linter.all false
set_option maxRecDepth 100000
set_option maxHeartbeats 4000000
namespace K51
open PySem PySem.Spec PyProof.Rows L2 Evl
/-! ### the class of line facts -/
structure LC (K : PySem.W.Frag) (cL : Addr) : Prop where
  cl : Cls K cL
  n1 : NoAttr K cL "own_rules"
  n2 : NoAttr K cL "own_start"
  n3 : NoAttr K cL "own_is_last"
  n4 : NoAttr K cL "own_is_part"
  n5 : NoAttr K cL "own_penalty"
  n6 : NoAttr K cL "own_natural"
  n7 : NoAttr K cL "own_width"
  n8 : NoAttr K cL "own_rest"
  n9 : NoAttr K cL "own_stretches"
  n10 : NoAttr K cL "own_shrink"
  n11 : NoAttr K cL "own_too_full"
  n12 : NoAttr K cL "own_badness"
  n13 : NoAttr K cL "own_tightness"
  n14 : NoAttr K cL "own_is_wrong"
def badV (full rest shr s0 s1 s2 s3 : Int) : Int := if 0 < full then 10000 else if rest < 0 then badBy (-rest) shr else if 0 < s1 ∨ 0 < s2 ∨ 0 < s3 then 0 else badBy rest s0
section
variable {α : Type} {K : PySem.W.Frag} {σ : L2.St} {H : Hp} {te tl : TE} {ta tr : TA} {t : TT} {D : Ends} {tz : TS}
theorem ev_anyR {bs : List Bool} (h : EvR te σ H (fun v H' => LstAt H' v (bs.map V.bl))) : Ev (tCB (rAny K) (tCons te tNil)) σ H (.bl (bs.any id)) := fun H1 e Q q => h H1 e _ fun v H2 e2 ⟨a, hv, ha⟩ => ⟨a, bs, by rw [hv], sq_of ha, q H2 e2⟩
theorem ev_sumR {ns : List Int} (h : EvR te σ H (fun v H' => LstAt H' v (ns.map V.int))) : Ev (tCB (rSum K) (tCons te tNil)) σ H (.int ns.sum) := fun H1 e Q q => h H1 e _ fun v H2 e2 ⟨a, hv, ha⟩ => ⟨a, ns, by rw [hv], sq_of ha, q H2 e2⟩
/-- a list of scalars -/
def RFn (f : α → V) : Hp → V → α → Prop := fun _ v y => v = f y
theorem rfn_mono {f : α → V} : RMono (RFn f) := fun _ _ _ _ _ h => h
theorem LstR.fn {f : α → V} {v : V} {ys : List α} (h : LstR (RFn f) H v ys) : LstAt H v (ys.map f) := by
  obtain ⟨a, acc, h1, h2, h3⟩ := h
  rw [paired_fn h3] at h2
  exact ⟨a, h1, h2⟩
theorem er_imp {R R' : V → Hp → Prop} (h : EvR te σ H R) (hr : ∀ v H1, Ex H H1 → R v H1 → R' v H1) : EvR te σ H R' := fun H1 e Q q => h H1 e _ fun v H2 e2 r => q v H2 e2 (hr v H2 (e.trans e2) r)
theorem EvR.mono {R : V → Hp → Prop} {H' : Hp} (e : Ex H H') (h : EvR te σ H R) : EvR te σ H' R := fun H1 e1 Q q => h H1 (e.trans e1) Q q
theorem ea_starL {xs ys : List V} (h : EvR te σ H (fun v H' => LstAt H' v xs)) (hr : EvA tr σ H ys) : EvA (StX.tStar K te tr) σ H (xs ++ ys) := fun H1 e Q q => h H1 e _ fun v H2 e2 ⟨a, hv, ha⟩ => ⟨a, xs, hv, .inr (sq_of ha), hr H2 (e.trans e2) _ fun H3 e3 => q H3 (e2.trans e3)⟩
theorem el_er {xs : List V} (h : EvL te σ H xs) : EvR te σ H (fun v H' => LstAt H' v xs) := fun H1 e Q q => h H1 e _ fun p H2 _ e2 h2 => q _ H2 e2 ⟨p, rfl, h2⟩
theorem paired_seg {β : Type} {F : V → β → Prop} : ∀ {xs : List V} {ys : List β} (a b : Nat), Paired F xs ys → Paired F ((xs.drop a).take b) ((ys.drop a).take b)
  | _, _, 0, 0, _ => .nil
  | _, _, 0, b + 1, .nil => .nil
  | _, _, 0, b + 1, .cons h t => .cons h (paired_seg 0 b t)
  | _, _, a + 1, b, .nil => by
    rw [List.drop_nil, List.drop_nil, List.take_nil, List.take_nil]
    exact .nil
  | _, _, a + 1, b, .cons h t => paired_seg a b t
end
section
variable {P : Program} {w : World} {K : PySem.W.Frag} {mg : Str → Option Value} {base : Heap} {cG cR cL aF : Addr}
abbrev st_LineFacts_badness_here : Stmt := inClass (top 57) 1
def nm_LineFacts_badness_here : List Str := ["self", "is_endless", "amount"]
theorem sc_LineFacts_badness_here : FnScope nm_LineFacts_badness_here ["self"] (defScope st_LineFacts_badness_here) := ⟨rfl, rfl, rfl, by decide +kernel, rfl, by decide +kernel, by decide +kernel⟩
def sp_badness_here (cL : Addr) : Sp := spV fun vs H v => ∃ (a dx t : Addr) (fs : List (Str × V)) (full rest shr s0 s1 s2 s3 : Int), vs = [.ref a] ∧ H a = some (.ins cL dx fs) ∧ fs.lookup ("own_too_full" : Str) = some (.int full) ∧ fs.lookup ("own_rest" : Str) = some (.int rest) ∧
  fs.lookup ("own_shrink" : Str) = some (.int shr) ∧ fs.lookup ("own_stretches" : Str) = some (.ref t) ∧ H t = some (.tup [.int s0, .int s1, .int s2, .int s3]) ∧ (-100000 < rest ∧ rest < 100000) ∧ (0 ≤ shr ∧ shr ≤ 1000) ∧ (0 ≤ s0 ∧ s0 ≤ 1000) ∧ v = .int (badV full rest shr s0 s1 s2 s3)
theorem ok_badness_here (T : Tx K mg cG cR cL aF) (LL : LC K cL) (D : DefM K cL "badness_here" "badness_here" "LineFacts.badness_here" st_LineFacts_badness_here) (c_badness_by : Cal P w K mg base "badness_by" ["wanted", "room"] 1 sp_badness_by) :
    CalM P w K mg base cL "badness_here" ["self"] 2 (sp_badness_here cL) := by
  refine calm_of D sc_LineFacts_badness_here (fun _ _ _ _ _ _ us hl => match us, hl with | [_], _ => rfl) (fun vs H Q E h => ?_) (fun f cdv A outer s H vs Q E hr h => ?_)
  · obtain ⟨v, ⟨a, _, _, _, _, _, _, _, _, _, _, rfl, _⟩, _⟩ := h
    rfl
  · obtain ⟨v, ⟨a, dx, t, fs, full, rest, shr, s0, s1, s2, s3, rfl, ha, l1, l2, l3, l4, ht, hre, hsh, hs0, rfl⟩, k⟩ := h
    refine ⟨_, (pss_cons (ps_if (pt_cmpR op_gt (pe_fld (pv 0) rfl) pe_int (nomark _)) (pss_one (ps_ret (pe_gi T.g_WORST))) pss_nil)
      (pss_cons (ps_if (pt_cmpR op_lt (pe_fld (pv 0) rfl) pe_int (nomark _)) (pss_one (ps_ret (pe_cal c_badness_by (hr.mono (by decide)) (pa_cons (pe_un un_neg (pe_fld (pv 0) rfl)) (pa_cons (pe_fld (pv 0) rfl) pa_nil))))) pss_nil)
      (pss_cons (ps_set (i := 1) sc_LineFacts_badness_here.nd rfl (Or.inl rfl) (pe_callB (cr_any rfl) (by rfl) T.any_ (by decide +kernel) (pa_cons (pe_lc (own := [("amount", 2)]) rfl sc_LineFacts_badness_here.nd (pi_tup (pe_slice sl_tupA (pe_fld (pv 0) rfl) (po_some pe_int) po_none)) (blkOk_by (own := [("amount", 2)]) (N := nm_LineFacts_badness_here) (sc := defScope st_LineFacts_badness_here) (by decide +kernel)) (fun _ _ _ _ _ => (pg_name (i := 2) sc_LineFacts_badness_here.nd rfl (Or.inl rfl))) (fun _ _ _ _ _ => pts_nil) (fun _ _ _ _ _ => (pe_cmpR op_gt (pv 2) pe_int (nomark _)))) pa_nil)))
      (pss_one (ps_ret (pe_ifExp (pt_val (pv 1)) pe_int (pe_cal c_badness_by (hr.mono (by decide)) (pa_cons (pe_fld (pv 0) rfl) (pa_cons (pe_ix ix_tup (pe_fld (pv 0) rfl) pe_int (fun _ _ => rfl)) pa_nil))))))))), ?_⟩
    refine q_when (et_test (ev_op (ev_fld (ev_var rfl) ha LL.cl LL.n11 l1) ev_c rv_I0)) (fun h1 H1 e1 => ?_) (fun h1 H1 e1 => ?_)
    · have h1 := of_decide_eq_true h1
      refine s_ret ev_c fun H2 e2 => kz k ?_ (e1.trans e2)
      unfold badV
      rw [if_pos h1]
    · have h1 := of_decide_eq_false h1
      refine q_when (et_test (ev_op (ev_fld (ev_var rfl) (e1 _ _ ha) LL.cl LL.n8 l2) ev_c rv_I0)) (fun h2 H2 e2 => ?_) (fun h2 H2 e2 => ?_)
      · have h2 := of_decide_eq_true h2
        have ha2 := e2 _ _ (e1 _ _ ha)
        refine s_ret (ev_calV (ea_cons (ev_un (ev_fld (ev_var rfl) ha2 LL.cl LL.n8 l2) ru_neg) (ea_cons (ev_fld (ev_var rfl) ha2 LL.cl LL.n10 l3) ea_nil)) fun H3 _ => ⟨-rest, shr, rfl, by omega, by omega, by omega, by omega, rfl⟩) fun H3 e3 => kz k ?_ ((e1.trans e2).trans e3)
        unfold badV
        rw [if_neg h1, if_pos h2]
      · have h2 := of_decide_eq_false h2
        have ha2 := e2 _ _ (e1 _ _ ha)
        have ht2 := e2 _ _ (e1 _ _ ht)
        -- is_endless
        have any3 : ([s1, s2, s3].map fun (x : Int) => decide (0 < x)).any id = decide (0 < s1 ∨ 0 < s2 ∨ 0 < s3) := by
          rw [Bool.eq_iff_iff]
          simp
        refine q_asg (v := .bl (decide (0 < s1 ∨ 0 < s2 ∨ 0 < s3))) (ev_is (ev_anyR (bs := [s1, s2, s3].map fun (x : Int) => decide (0 < x)) (er_imp (er_lcT (R := RFn fun (x : Int) => V.bl (decide (0 < x))) rfn_mono (xs := [.int s1, .int s2, .int s3]) (fun i => [s1, s2, s3].take i) rfl (fun i => by rw [List.length_take]; show min i 3 < 1000000; omega) (er_slT (ev_fld (ev_var rfl) ha2 LL.cl LL.n9 l4) (eo_some ev_c) eo_none ht2 rfl) ?_) fun v H3 _ h => ?_)) (by rw [any3])) fun H3 e3 => ?_
        · intro i x H3 e3 hx
          have hx2 : ∃ z, ([s1, s2, s3] : List Int)[i]? = some z ∧ x = .int z := by
            match i, hx with
            | 0, hx => exact ⟨s1, rfl, (Option.some.inj hx).symm⟩
            | 1, hx => exact ⟨s2, rfl, (Option.some.inj hx).symm⟩
            | 2, hx => exact ⟨s3, rfl, (Option.some.inj hx).symm⟩
          obtain ⟨z, hz, rfl⟩ := hx2
          refine turn_name (b := true) rfl et_yes (fun _ => ⟨z, er_of (ev_op (ev_var rfl) ev_c rv_I0) fun _ _ => rfl, ?_⟩) fun h => nomatch h
          rw [List.take_succ, hz]
          rfl
        · have h2 := h.fn
          rw [List.map_map]
          exact h2
        · have ha3 := e3 _ _ ha2
          have ht3 := e3 _ _ ht2
          refine s_ret (v := .int (if 0 < s1 ∨ 0 < s2 ∨ 0 < s3 then 0 else badBy rest s0)) (ev_if (et_B (ev_var rfl)) (fun h3 => ?_) fun h3 => ?_) fun H4 e4 => kz k ?_ (((e1.trans e2).trans e3).trans e4)
          · have h3 := of_decide_eq_true h3
            rw [if_pos h3]
            exact ev_c
          · have h3 := of_decide_eq_false h3
            rw [if_neg h3]
            exact ev_calV (ea_cons (ev_fld (ev_var rfl) ha3 LL.cl LL.n8 l2) (ea_cons (ev_ixT (ev_fld (ev_var rfl) ha3 LL.cl LL.n9 l4) ev_c ht3 at0) ea_nil)) fun H4 _ => ⟨rest, s0, rfl, by omega, by omega, by omega, by omega, rfl⟩
          · unfold badV
            rw [if_neg h1, if_neg h2]
end
end K51
set_option Elab.async false
set_option linter.all false
set_option maxRecDepth 100000
set_option maxHeartbeats 4000000
namespace K51
open PySem PySem.Spec PyProof.Rows L2 Evl
/-- the scope of a statement's comprehension -/
def lcScope (s : Stmt) : Scope := match s with
  | .Assign _ (.ListComp _ _ sc _) _ => sc
  | _ => ⟨.function, [], false, false, []⟩
/-- all but a stays -/
def ExA (a : Addr) (H H' : Hp) : Prop := ∀ c o, c ≠ a → H c = some o → H' c = some o
theorem ExA.of {a : Addr} {H H' : Hp} (e : Ex H H') : ExA a H H' := fun c o _ h => e c o h
theorem ExA.trans {a : Addr} {H H1 H2 : Hp} (x : ExA a H H1) (y : ExA a H1 H2) : ExA a H H2 := fun c o n h => y c o n (x c o n h)
section
variable {K : PySem.W.Frag} {σ : L2.St} {H0 Hc : Hp} {te : TE} {v : V} {D : Ends} {tz : TS} {a C dx : Addr} {f : Str} {fs fs' : List (Str × V)}
/-- self.f = e, self new since H0 -/
theorem lf_step (eC : Ex H0 Hc) (h0 : H0 a = none) (hC : Hc a = some (.ins C dx fs)) (hv : Ev te σ Hc v) (hs : σ[0]? = some (some (.ref a))) (hc : Cls K C) (hn : NoAttr K C f) (hl : fs.length < 1000) (hp : putF f v fs = fs')
    (k : ∀ Hn, Ex H0 Hn → ExA a Hc Hn → Hn a = some (.ins C dx fs') → tz D σ Hn) : tSeq (sFld K (tVar 0) te f) tz D σ Hc :=
  q_fld hv (ev_var hs) hC hc hn hl fun H1 e1 => by
    rw [hp]
    exact k _ (Ex.mut (eC.trans e1) h0) (fun c o n h => by rw [upd_ne n]; exact e1 c o h) upd_same
theorem lf_last (eC : Ex H0 Hc) (h0 : H0 a = none) (hC : Hc a = some (.ins C dx fs)) (hv : Ev te σ Hc v) (hs : σ[0]? = some (some (.ref a))) (hc : Cls K C) (hn : NoAttr K C f) (hl : fs.length < 1000) (hp : putF f v fs = fs')
    (k : ∀ Hn, Ex H0 Hn → ExA a Hc Hn → Hn a = some (.ins C dx fs') → D.nx σ Hn) : sFld K (tVar 0) te f D σ Hc :=
  s_fld hv (ev_var hs) hC hc hn hl fun H1 e1 => by
    rw [hp]
    exact k _ (Ex.mut (eC.trans e1) h0) (fun c o n h => by rw [upd_ne n]; exact e1 c o h) upd_same
theorem lf_stepR {R : V → Hp → Prop} (eC : Ex H0 Hc) (h0 : H0 a = none) (hC : Hc a = some (.ins C dx fs)) (hv : EvR te σ Hc R) (hs : σ[0]? = some (some (.ref a))) (hc : Cls K C) (hn : NoAttr K C f) (hl : fs.length < 1000)
    (k : ∀ v H1 Hn, Ex Hc H1 → R v H1 → Ex H0 Hn → ExA a H1 Hn → Hn a = some (.ins C dx (putF f v fs)) → tz D σ Hn) : tSeq (sFld K (tVar 0) te f) tz D σ Hc :=
  q_fldR hv (fun H1 e1 => ev_var hs) hC hc hn hl fun v H1 H2 e1 r e2 => k v H1 _ e1 r (Ex.mut ((eC.trans e1).trans e2) h0) (fun c o n h => by rw [upd_ne n]; exact e2 c o h) upd_same
end
def lfL (rv tv : V) (r : Row) (u : Ru) (p : Int) (e : Nat) (n : Int) : List (Str × V) :=
  [("own_rules", rv), ("own_start", .int (startOf r p : Int)), ("own_is_last", .bl (decide (e + 1 = r.length))), ("own_is_part", .bl (at_ r e).isPart), ("own_penalty", .int (penOf r u e)), ("own_natural", .int (natOf r p e)), ("own_width", .int (widthOf u n)),
    ("own_rest", .int (restOf r u p e n)), ("own_stretches", tv), ("own_shrink", .int (shrOf r p e)), ("own_too_full", .int (fullOf r u p e n)), ("own_badness", .int (badOf r u p e n)), ("own_tightness", .int (clsOf r u p e n)), ("own_is_wrong", .bl (wrongOf r u p e n))]
def sp_lf_init (cG cR cL : Addr) : Sp := fun vs H Q _ => ∃ (a dx b : Addr) (x : V) (r : Row) (u : Ru) (p : Int) (e : Nat) (n : Int) (H0 : Hp), vs = [.ref a, x, .ref b, .int p, .int (e : Int), .int n] ∧ H0 a = none ∧ Ex H0 H ∧ H a = some (.ins cL dx []) ∧ RowAt cG H0 x r ∧ RulesAt cR H0 (.ref b) u ∧ Bd r u ∧
  Pl r p ∧ e ∈ nexts r u.hyp p ∧ (1 ≤ n ∧ n ≤ 1000) ∧ ∀ H2 tv, Ex H0 H2 → H2 a = some (.ins cL dx (lfL (.ref b) tv r u p e n)) → Q .non H2
def RGlue (cG : Addr) : Hp → V → It → Prop := fun H v it => ∃ n s o k, it = .glue n s o k ∧ GSlot cG H v n s o k
theorem rglue_mono {cG : Addr} : RMono (RGlue cG) := fun H H' v y e ⟨n, s, o, k, h, g, dx, h1, h2, h3⟩ => ⟨n, s, o, k, h, g, dx, h1, e _ _ h2 (fun xs z => by unfold SlX.SlO at z; cases z), e _ _ h3 fun xs z => by cases z⟩
theorem tag_glue (it : It) : decide (V.str it.tag = V.str "glue") = it.isGlue := by
  cases it with
  | box _ => exact (by decide +kernel : decide (V.str "box" = V.str "glue") = false)
  | glue _ _ _ _ => exact (by decide +kernel : decide (V.str "glue" = V.str "glue") = true)
  | part _ _ _ => exact (by decide +kernel : decide (V.str "part" = V.str "glue") = false)
  | pen _ => exact (by decide +kernel : decide (V.str "penalty" = V.str "glue") = false)
theorem out_map {α β : Type} (f : β → α) (ys : List β) (i : Nat) {y : β} (h : ys[i]? = some y) : (ys.take (i + 1)).map f = (ys.take i).map f ++ [f y] := by
  rw [List.take_succ, h, List.map_append]
  rfl
theorem take_len {α : Type} (ys : List α) (i n : Nat) (h : ys.length ≤ n) : (ys.take i).length ≤ n := by
  rw [List.length_take]
  omega
section
variable {P : Program} {w : World} {K : PySem.W.Frag} {mg : Str → Option Value} {base : Heap} {cG cR cL aF : Addr}
abbrev st_LineFacts___init__ : Stmt := inClass (top 57) 0
def nm_LineFacts___init__ : List Str := ["self", "row", "rules", "place", "end", "number", "items", "glues", "sums", "item", "order", "glue"]
theorem sc_LineFacts___init__ : FnScope nm_LineFacts___init__ ["self", "row", "rules", "place", "end", "number"] (defScope st_LineFacts___init__) := ⟨rfl, rfl, rfl, by decide +kernel, rfl, by decide +kernel, by decide +kernel⟩
theorem ok_lf_init (T : Tx K mg cG cR cL aF) (LL : LC K cL) (RR : RC K cR) (GG : GC P w K mg base cG) (D : DefI K cL "__init__" "LineFacts.__init__" st_LineFacts___init__)
    (c_start_behind : Cal P w K mg base "start_behind" ["row", "place"] 2 (sp_start_behind cG)) (c_penalty_at : Cal P w K mg base "penalty_at" ["row", "rules", "end"] 2 (sp_penalty_at cG cR)) (c_natural_of : Cal P w K mg base "natural_of" ["item"] 3 (sp_natural_of cG))
    (c_edge_widths : Cal P w K mg base "edge_widths" ["row", "place", "end"] 1 (sp_edge_widths cG)) (c_class_of : Cal P w K mg base "class_of" ["badness", "rest"] 1 sp_class_of) (c_badness_here : CalM P w K mg base cL "badness_here" ["self"] 2 (sp_badness_here cL)) :
    CalI P w K mg base cL ["self", "row", "rules", "place", "end", "number"] 4 (sp_lf_init cG cR cL) := by
  refine cali_of D sc_LineFacts___init__ (fun _ _ _ _ _ _ us hl => match us, hl with | [_, _, _, _, _, _], _ => rfl) (fun vs H Q E h => ?_) (fun f cdv A outer s H vs Q E hr h => ?_)
  · obtain ⟨a, dx, b, x, r, u, p, e, n, H0, rfl, _⟩ := h
    rfl
  · obtain ⟨a, dx, b, x, r, u, p, e, n, H0, rfl, h0, eC, hC, ⟨ra, ws, rfl, hra, hi⟩, ⟨b', rdx, wa, hbb, hb, hw⟩, hbd, hp, he, hn, k⟩ := h
    cases hbb
    refine ⟨_, (pss_cons (ps_fld (pv 0) (pv 2) rfl)
      (pss_cons (ps_fld (pv 0) (pe_cal c_start_behind (hr.mono (by decide)) (pa_cons (pv 1) (pa_cons (pv 3) pa_nil))) rfl)
      (pss_cons (ps_fld (pv 0) (pe_cmpR op_eq (pv 4) (pe_op op_sub (pe_callB call_len_seq (by rfl) T.len_ (by decide +kernel) (pa_cons (pv 1) pa_nil)) pe_int) (nomark _)) rfl)
      (pss_cons (ps_fld (pv 0) (pe_cmpR op_eq (pe_ix ix_tup (pe_ix ix_tup (pv 1) (pv 4) (fun _ _ => rfl)) pe_int (fun _ _ => rfl)) pe_str (nomark _)) rfl)
      (pss_cons (ps_fld (pv 0) (pe_cal c_penalty_at (hr.mono (by decide)) (pa_cons (pv 1) (pa_cons (pv 2) (pa_cons (pv 4) pa_nil)))) rfl)
      (pss_cons (ps_set (i := 6) sc_LineFacts___init__.nd rfl (Or.inl rfl) (pe_slice sl_tupA (pv 1) (po_some (pe_fld (pv 0) rfl)) (po_some (pv 4))))
      (pss_cons (ps_set (i := 7) sc_LineFacts___init__.nd rfl (Or.inr rfl) (pe_lc (own := [("item", 9)]) rfl sc_LineFacts___init__.nd (pi_tup (pv 6)) (blkOk_by (own := [("item", 9)]) (N := nm_LineFacts___init__) (sc := defScope st_LineFacts___init__) (by decide +kernel)) (fun _ _ _ _ _ => (pg_name (i := 9) sc_LineFacts___init__.nd rfl (Or.inl rfl))) (fun _ _ _ _ _ => (pts_one (pt_cmpR op_eq (pe_ix (ix_tupK (K := K) rfl) (pv 9) pe_int (fun _ _ => rfl)) pe_str (nomark _)))) (fun _ _ _ _ _ => (pe_ix (ix_tupK (K := K) rfl) (pv 9) pe_int (fun _ _ => rfl)))))
      (pss_cons (ps_fld (pv 0) (pe_op op_add (pe_callB (cr_sum rfl) (by rfl) T.sum_ (by decide +kernel) (pa_cons (pe_lc (own := [("item", 9)]) rfl sc_LineFacts___init__.nd (pi_tup (pv 6)) (blkOk_by (own := [("item", 9)]) (N := nm_LineFacts___init__) (sc := defScope st_LineFacts___init__) (by decide +kernel)) (fun _ _ _ _ _ => (pg_name (i := 9) sc_LineFacts___init__.nd rfl (Or.inl rfl))) (fun _ _ _ _ _ => pts_nil) (fun _ _ _ _ _ => (pe_cal c_natural_of (hr.mono (by decide)) (pa_cons (pv 9) pa_nil)))) pa_nil)) (pe_cal c_edge_widths (hr.mono (by decide)) (pa_cons (pv 1) (pa_cons (pv 3) (pa_cons (pv 4) pa_nil))))) rfl)
      (pss_cons (ps_fld (pv 0) (pe_ix ix_tup (pe_fld (pv 2) rfl) (pe_op op_sub (pe_callB (call_min2 rfl) (by rfl) T.min_ (by decide +kernel) (pa_cons (pv 5) (pa_cons (pe_callB call_len_seq (by rfl) T.len_ (by decide +kernel) (pa_cons (pe_fld (pv 2) rfl) pa_nil)) pa_nil))) pe_int) (fun _ _ => rfl)) rfl)
      (pss_cons (ps_fld (pv 0) (pe_op op_sub (pe_fld (pv 0) rfl) (pe_fld (pv 0) rfl)) rfl)
      (pss_cons (ps_setLc (i := 8) (own := [("order", 10)]) rfl sc_LineFacts___init__.nd rfl rfl (sw_true rfl rfl rfl (by decide +kernel)) (pi_range1 rfl T.range_ (pa_cons pe_int pa_nil)) (blkOk_by (own := [("order", 10)]) (N := nm_LineFacts___init__) (sc := defScope st_LineFacts___init__) (by decide +kernel)) (fun _ _ _ _ _ => (pg_name (i := 10) sc_LineFacts___init__.nd rfl (Or.inr rfl))) (fun _ _ _ _ _ => pts_nil) (fun _ _ _ _ _ => by exact (pe_callB (cr_sumK (K := K) rfl rfl) (by rfl) T.sum_ (by decide +kernel) (pa_cons (pe_lc (own := [("glue", 11)]) rfl sc_LineFacts___init__.nd (pi_listK (K := K) rfl (pv 7)) (blkOk_by (own := [("glue", 11)]) (N := nm_LineFacts___init__) (sc := relS (lcScope ((defBody st_LineFacts___init__).getD 10 (.Pass ⟨0, 0, 0, 0⟩))) (defScope st_LineFacts___init__)) (by decide +kernel)) (fun _ _ _ _ _ => (pg_name (i := 11) sc_LineFacts___init__.nd rfl (Or.inl rfl))) (fun _ _ _ _ _ => (pts_one (pt_cmpR op_eq (pe_glue_stretch_order GG (hr.mono (by decide)) (pv 11)) (pv 10) (nomark _)))) (fun _ _ _ _ _ => (pe_glue_stretch GG (hr.mono (by decide)) (pv 11)))) pa_nil))))
      (pss_cons (ps_fld (pv 0) (pe_tup (pa_cons (pe_op op_add (pe_ix ix_list (pv 8) pe_int (fun _ _ => rfl)) (pe_fld (pv 2) rfl)) (StX.pa_star (pe_slice sl_list (pv 8) (po_some pe_int) po_none) pa_nil))) rfl)
      (pss_cons (ps_fld (pv 0) (pe_callB (cr_sum rfl) (by rfl) T.sum_ (by decide +kernel) (pa_cons (pe_lc (own := [("glue", 11)]) rfl sc_LineFacts___init__.nd (pi_list (pv 7)) (blkOk_by (own := [("glue", 11)]) (N := nm_LineFacts___init__) (sc := defScope st_LineFacts___init__) (by decide +kernel)) (fun _ _ _ _ _ => (pg_name (i := 11) sc_LineFacts___init__.nd rfl (Or.inl rfl))) (fun _ _ _ _ _ => pts_nil) (fun _ _ _ _ _ => (pe_glue_shrink GG (hr.mono (by decide)) (pv 11)))) pa_nil)) rfl)
      (pss_cons (ps_fld (pv 0) (pe_callB (call_max2 rfl) (by rfl) T.max_ (by decide +kernel) (pa_cons pe_int (pa_cons (pe_op op_sub (pe_un un_neg (pe_fld (pv 0) rfl)) (pe_fld (pv 0) rfl)) pa_nil))) rfl)
      (pss_cons (ps_fld (pv 0) (pe_calm0 c_badness_here LL.cl (hr.mono (by decide)) (pv 0)) rfl)
      (pss_cons (ps_fld (pv 0) (pe_cal c_class_of (hr.mono (by decide)) (pa_cons (pe_fld (pv 0) rfl) (pa_cons (pe_fld (pv 0) rfl) pa_nil))) rfl)
      (pss_one (ps_fld (pv 0) (pe_or (pe_cmpR op_gt (pe_fld (pv 0) rfl) pe_int (nomark _)) (pe_one (pe_cmpR op_gt (pe_fld (pv 0) rfl) (pe_fld (pv 2) rfl) (nomark _)))) rfl)))))))))))))))))), ?_⟩
    obtain ⟨he1, he2, he3⟩ := nexts_mem he
    have hl := paired_len hi
    obtain ⟨z, hz, hit⟩ := its_at hi he1
    have hza : atI ws (e : Int) = some z := atI_nat hz
    obtain ⟨zt, zs, rfl, hzt⟩ := hit.tag
    -- own_rules, own_start, own_is_last, own_is_part, own_penalty
    refine lf_step (fs' := (lfL (.ref b) (.ref b) r u p e n).take 1) eC h0 hC (ev_var rfl) rfl LL.cl LL.n1 (by show 0 < 1000; decide) rfl fun Ha ea _ hA => ?_
    refine lf_step (fs' := (lfL (.ref b) (.ref b) r u p e n).take 2) ea h0 hA (ev_calV (ea_cons (ev_var rfl) (ea_cons (ev_var rfl) ea_nil)) fun H1 e1 => ⟨_, r, p, rfl, ⟨ra, ws, rfl, e1 _ _ (ea _ _ hra), hi.mono gSlot_mono (ea.trans e1)⟩, hbd.ok, hp, rfl⟩) rfl LL.cl LL.n2 (by show 1 < 1000; decide) rfl fun Hb eb _ hB => ?_
    refine lf_step (fs' := (lfL (.ref b) (.ref b) r u p e n).take 3) (v := .bl (decide (e + 1 = r.length))) eb h0 hB (ev_is (ev_op (ev_var rfl) (ev_op (ev_lenS (ev_var rfl) (.inr (st_of (eb _ _ hra)))) ev_c rv_I0) (rv_eq rfl)) (by rw [int_dec, hl]; congr 1; rw [Bool.eq_iff_iff, decide_eq_true_iff, decide_eq_true_iff]; omega)) rfl LL.cl LL.n3 (by show 2 < 1000; decide) rfl fun Hd ed _ hD => ?_
    refine lf_step (fs' := (lfL (.ref b) (.ref b) r u p e n).take 4) (v := .bl (at_ r e).isPart) ed h0 hD (ev_is (ev_op (ev_ixT (ev_ixT (ev_var rfl) (ev_var rfl) (ed _ _ hra) hza) ev_c (ed _ _ hzt) at0) ev_c (rv_eq rfl)) (by rw [tag_part])) rfl LL.cl LL.n4 (by show 3 < 1000; decide) rfl fun He ee _ hE => ?_
    refine lf_step (fs' := (lfL (.ref b) (.ref b) r u p e n).take 5) ee h0 hE (ev_calV (ea_cons (ev_var rfl) (ea_cons (ev_var rfl) (ea_cons (ev_var rfl) ea_nil))) fun H1 e1 => ⟨_, _, r, u, e, rfl, ⟨ra, ws, rfl, e1 _ _ (ee _ _ hra), hi.mono gSlot_mono (ee.trans e1)⟩, ⟨b, rdx, wa, rfl, e1 _ _ (ee _ _ hb), e1 _ _ (ee _ _ hw)⟩, he1, rfl⟩) rfl LL.cl LL.n5 (by show 4 < 1000; decide) rfl fun Hf ef _ hF => ?_
    -- items
    have hsl := startOf_le hbd.ok.1 hp
    refine q_asgR (R := fun v H' => TupAt H' v ((ws.drop (startOf r p)).take (e - startOf r p))) (er_slT (ev_var rfl) (eo_some (ev_fld (ev_var rfl) hF LL.cl LL.n2 rfl)) (eo_some (ev_var rfl)) (ef _ _ hra) (cutV_nat (by omega) (by omega))) ?_
    rintro _ Hg eg ⟨ia, rfl, hia⟩
    have eg0 := ef.trans eg
    have hG := eg _ _ hF
    have hseg : ItsAt (GSlot cG) H0 ((ws.drop (startOf r p)).take (e - startOf r p)) (seg r (startOf r p) e) := paired_seg _ _ hi
    have hsegl := paired_len hseg
    have segl : (seg r (startOf r p) e).length ≤ 12 := Nat.le_trans (seg_len r _ _) hbd.len
    have nia : ia ≠ a := ne_of hia hG (by intro z; cases z)
    generalize hys : (ws.drop (startOf r p)).take (e - startOf r p) = ys at hia hseg hsegl
    generalize hsg : seg r (startOf r p) e = sg at hseg hsegl segl
    -- glues
    refine q_asgR (R := fun v H' => LstR (RGlue cG) H' v (sg.filter It.isGlue)) (er_imp (er_lcT (R := RGlue cG) rglue_mono (xs := ys) (fun i => (sg.take i).filter It.isGlue) rfl (fun i => Nat.lt_of_le_of_lt (Nat.le_trans (List.length_filter_le _ _) (take_len sg i 12 segl)) (by decide)) (er_of (ev_var rfl) fun H1 e1 => ⟨ia, rfl, e1 _ _ hia⟩) ?_) fun v H1 _ h => ?_) ?_
    · intro i x H1 e1 hx
      obtain ⟨y, hy⟩ : ∃ y, sg[i]? = some y := by
        have h1 : i < ys.length := (List.getElem?_eq_some_iff.mp hx).1
        exact ⟨_, List.getElem?_eq_getElem (by omega)⟩
      obtain ⟨x', hx', hit'⟩ := paired_get hseg hy
      rw [hx] at hx'
      cases hx'
      have hit1 := hit'.mono gSlot_mono (eg0.trans e1)
      have ho := out_filter It.isGlue (fun y => y) sg i hy
      simp only [List.map_id'] at ho
      obtain ⟨t, xs, rfl, ht⟩ := hit1.tag
      refine turn_name (b := y.isGlue) rfl (et_is (et_test (ev_op (ev_ixT (ev_var rfl) ev_c ht at0) ev_c (rv_eq rfl))) (tag_glue y)) (fun hb1 => ?_) fun hb1 => ?_
      · refine ⟨y, ?_, by rw [ho, hb1]; rfl⟩
        cases hit1 with
        | glue q g => exact er_of (ev_ixT (ev_var rfl) ev_c q at1) fun H2 e2 => ⟨_, _, _, _, rfl, gSlot_mono.to _ _ _ _ _ _ _ e2 g⟩
        | box q => cases hb1
        | part q => cases hb1
        | pen q => cases hb1
      · rw [ho, hb1]
        exact List.append_nil _
    · rw [hsegl, List.take_length] at h
      exact h
    rintro gv Hh eh ⟨ga, gacc, rfl, hga, hgp⟩
    have eh0 := eg0.trans eh
    have hH := eh _ _ hG
    have nga : ga ≠ a := ne_of hga hH (by intro z; cases z)
    have glen : (sg.filter It.isGlue).length ≤ 12 := Nat.le_trans (List.length_filter_le _ _) segl
    have hgl := paired_len hgp
    -- own_natural
    have enat : natOf r p e = (sg.map It.natW).sum + ((if p = -1 then 0 else (at_ r p.toNat).behind) + (at_ r e).ahead) := by
      rw [← hsg]
      rfl
    refine lf_step (fs' := (lfL (.ref b) (.ref b) r u p e n).take 6) (v := .int (natOf r p e)) eh0 h0 hH (ev_is (ev_op (ev_sumR (ns := sg.map It.natW) (er_imp (er_lcT (R := RFn fun (y : It) => V.int y.natW) rfn_mono (xs := ys) (fun i => sg.take i) rfl (fun i => Nat.lt_of_le_of_lt (take_len sg i 12 segl) (by decide)) (er_of (ev_var rfl) fun H1 e1 => ⟨ia, rfl, e1 _ _ (eh _ _ hia)⟩) ?_) fun v H1 _ h => ?_))
        (ev_calV (ea_cons (ev_var rfl) (ea_cons (ev_var rfl) (ea_cons (ev_var rfl) ea_nil))) fun H1 e1 => ⟨_, r, p, e, rfl, ⟨ra, ws, rfl, e1 _ _ (eh0 _ _ hra), hi.mono gSlot_mono (eh0.trans e1)⟩, hp.imp id (fun z => by omega), he1, rfl⟩) rv_I0) (by rw [enat])) rfl LL.cl LL.n6 (by show 5 < 1000; decide) rfl fun Hi ei xi hI => ?_
    · intro i x H1 e1 hx
      obtain ⟨y, hy⟩ : ∃ y, sg[i]? = some y := by
        have h1 : i < ys.length := (List.getElem?_eq_some_iff.mp hx).1
        exact ⟨_, List.getElem?_eq_getElem (by omega)⟩
      obtain ⟨x', hx', hit'⟩ := paired_get hseg hy
      rw [hx] at hx'
      cases hx'
      have ho := out_map (fun y => y) sg i hy
      simp only [List.map_id'] at ho
      exact turn_name (b := true) rfl et_yes (fun _ => ⟨y, er_of (ev_calV (ea_cons (ev_var rfl) ea_nil) fun H2 e2 => ⟨_, y, rfl, hit'.mono gSlot_mono ((eh0.trans e1).trans e2), rfl⟩) fun _ _ => rfl, ho⟩) fun h => nomatch h
    · have h2 := h.fn
      rw [hsegl, List.take_length] at h2
      rw [List.map_map]
      exact h2
    have hga_i := xi _ _ nga hga
    have hgp_i : Paired (RGlue cG Hi) gacc (sg.filter It.isGlue) := Paired.mapP hgp fun v y ⟨n', s', o', k', q, g, dx', h1, h2, h3⟩ => ⟨n', s', o', k', q, g, dx', h1, xi _ _ (ne_of h2 hH (by intro z; unfold SlX.SlO at z; cases z)) h2, xi _ _ (ne_of h3 hH (by intro z; cases z)) h3⟩
    -- own_width, own_rest
    have hwl := hbd.wl
    have hmin : (if ((u.ws.map V.int).length : Int) < n then ((u.ws.map V.int).length : Int) else n) - 1 = (((min n (u.ws.length : Int) - 1).toNat : Nat) : Int) := by
      rw [List.length_map]
      have := hn.1
      split <;> omega
    have hwat : atI (u.ws.map V.int) ((if ((u.ws.map V.int).length : Int) < n then ((u.ws.map V.int).length : Int) else n) - 1) = some (.int (widthOf u n)) := by
      refine at_of hmin ?_
      have hlt : (min n (u.ws.length : Int) - 1).toNat < u.ws.length := by omega
      unfold widthOf
      rw [List.getElem?_map, List.getD_eq_getElem?_getD, List.getElem?_eq_getElem hlt]
      rfl
    refine lf_step (fs' := (lfL (.ref b) (.ref b) r u p e n).take 7) (v := .int (widthOf u n)) ei h0 hI (ev_ixT (ev_fld (ev_var rfl) (ei _ _ hb) RR.cl RR.nW ruF_wid) (ev_op (ev_min2 (ev_var rfl) (ev_lenS (ev_fld (ev_var rfl) (ei _ _ hb) RR.cl RR.nW ruF_wid) (.inr (st_of (ei _ _ hw))))) ev_c rv_I0) (ei _ _ hw) hwat) rfl LL.cl LL.n7 (by show 6 < 1000; decide) rfl fun Hj ej xj hJ => ?_
    refine lf_step (fs' := (lfL (.ref b) (.ref b) r u p e n).take 8) (v := .int (restOf r u p e n)) ej h0 hJ (ev_op (ev_fld (ev_var rfl) hJ LL.cl LL.n7 rfl) (ev_fld (ev_var rfl) hJ LL.cl LL.n6 rfl) rv_I0) rfl LL.cl LL.n8 (by show 7 < 1000; decide) rfl fun Hk ek xk hK => ?_
    have hga_k := xk _ _ nga (xj _ _ nga hga_i)
    have step2 : ∀ {H1 H2 : Hp} {fs : List (Str × V)}, ExA a H1 H2 → H1 a = some (.ins cL dx fs) → Paired (RGlue cG H1) gacc (sg.filter It.isGlue) → Paired (RGlue cG H2) gacc (sg.filter It.isGlue) := fun x ha q => Paired.mapP q fun v y ⟨n', s', o', k', q, g, dx', h1, h2, h3⟩ => ⟨n', s', o', k', q, g, dx', h1, x _ _ (ne_of h2 ha (by intro z; unfold SlX.SlO at z; cases z)) h2, x _ _ (ne_of h3 ha (by intro z; cases z)) h3⟩
    have hgp_k := step2 xk hJ (step2 xj hI hgp_i)
    -- sums
    have turnG : ∀ (i : Nat) (x : V) (H1 : Hp), Ex Hk H1 → gacc[i]? = some x → ∃ y, (sg.filter It.isGlue)[i]? = some y ∧ ∃ n' s' o' k', y = .glue n' s' o' k' ∧ GSlot cG H1 x n' s' o' k' := fun i x H1 e1 hx => by
      obtain ⟨y, hy⟩ : ∃ y, (sg.filter It.isGlue)[i]? = some y := by
        have h1 : i < gacc.length := (List.getElem?_eq_some_iff.mp hx).1
        exact ⟨_, List.getElem?_eq_getElem (by omega)⟩
      obtain ⟨x', hx', n', s', o', k', q, g⟩ := paired_get hgp_k hy
      rw [hx] at hx'
      cases hx'
      exact ⟨y, hy, n', s', o', k', q, gSlot_mono.to _ _ _ _ _ _ _ e1 g⟩
    refine q_asgR (R := fun v H' => LstAt H' v ([0, 1, 2, 3].map fun (o : Int) => V.int (strOf r o p e))) (er_imp (er_lcR1 (R := RFn fun (o : Int) => V.int (strOf r o p e)) rfn_mono (n := 4) (fun i => [0, 1, 2, 3].take i) rfl (fun i => by rw [List.length_take]; show min i 4 < 1000000; omega) (ea_cons ev_c ea_nil) (by decide) ?_) fun v H1 _ h => h.fn) ?_
    · intro o H1 e1 ho
      refine turn_name (b := true) rfl et_yes (fun _ => ⟨(o : Int), er_of (v := .int (strOf r (o : Int) p e)) (ev_is (ev_sumR (ns := (((sg.filter It.isGlue).filter fun x => decide (x.ord = (o : Int))).map It.strR)) (er_imp (er_lcL (R := RFn V.int) rfn_mono (xs := gacc) (fun i => (((sg.filter It.isGlue).take i).filter fun x => decide (x.ord = (o : Int))).map It.strR) rfl (fun i => ?_) (er_of (ev_var rfl) fun H2 e2 => ⟨ga, rfl, e2 _ _ (e1 _ _ hga_k)⟩) ?_) fun v H2 _ h => ?_)) ?_) fun _ _ => rfl, ?_⟩) fun h => nomatch h
      · rw [List.length_map]
        exact Nat.lt_of_le_of_lt (Nat.le_trans (List.length_filter_le _ _) (take_len _ i 12 glen)) (by decide)
      · intro i x H2 e2 hx
        obtain ⟨y, hy, n', s', o', k', rfl, g⟩ := turnG i x H2 (e1.trans e2) hx
        have ho2 := out_filter (fun (x : It) => decide (x.ord = (o : Int))) It.strR (sg.filter It.isGlue) i hy
        refine turn_name (b := decide (o' = (o : Int))) rfl (et_is (et_test (ev_op (ev_gprop (ev_var rfl) g rfl) (ev_var rfl) (rv_eq rfl))) (int_dec _ _)) (fun hb1 => ?_) fun hb1 => ?_
        · refine ⟨s', er_of (ev_gprop (ev_var rfl) g rfl) fun _ _ => rfl, ?_⟩
          rw [ho2, show (It.glue n' s' o' k').ord = o' from rfl, hb1]
          rfl
        · rw [ho2, show (It.glue n' s' o' k').ord = o' from rfl, hb1]
          exact List.append_nil _
      · have h2 := h.fn
        rw [hgl, List.take_length] at h2
        exact h2
      · rw [sum_str, ← hsg]
        rfl
      · match o, ho with
        | 0, _ => rfl
        | 1, _ => rfl
        | 2, _ => rfl
        | 3, _ => rfl
    rintro _ Hl el ⟨sa, rfl, hsa⟩
    have el0 := ek.trans el
    have hL := el _ _ hK
    have nsa : sa ≠ a := ne_of hsa hL (by intro z; cases z)
    have hga_l := el _ _ hga_k
    have hgp_l : Paired (RGlue cG Hl) gacc (sg.filter It.isGlue) := Paired.mapP hgp_k fun v y q => rglue_mono _ _ _ _ (.of el) q
    -- own_stretches
    refine lf_stepR (R := fun v H' => TupAt H' v [.int (strOf r 0 p e + u.room), .int (strOf r 1 p e), .int (strOf r 2 p e), .int (strOf r 3 p e)]) el0 h0 hL (er_tup (ea_cons (ev_op (ev_ixL (ev_var rfl) ev_c hsa at0) (ev_fld (ev_var rfl) (el0 _ _ hb) RR.cl RR.nR ruF_room) rv_I0) (ea_starL (el_er (el_sl (ev_var rfl) (eo_some ev_c) eo_none (sq_of hsa))) ea_nil)) (by show 4 ≤ 100000; decide)) rfl LL.cl LL.n9 (by show 8 < 1000; decide) ?_
    rintro _ Hm Hn em ⟨ta, rfl, hta⟩ en xn hN
    have hN : Hn a = some (.ins cL dx ((lfL (.ref b) (.ref ta) r u p e n).take 9)) := hN
    have nta : ta ≠ a := ne_of hta (em _ _ hL) (by intro z; cases z)
    have hga_n := xn _ _ nga (em _ _ hga_l)
    have hgp_n := step2 xn (em _ _ hL) (Paired.mapP hgp_l fun v y q => rglue_mono _ _ _ _ (.of em) q)
    have hta_n := xn _ _ nta hta
    -- own_shrink
    refine lf_step (fs' := (lfL (.ref b) (.ref ta) r u p e n).take 10) (v := .int (shrOf r p e)) en h0 hN (ev_is (ev_sumR (ns := (sg.filter It.isGlue).map It.shr) (er_imp (er_lcL (R := RFn V.int) rfn_mono (xs := gacc) (fun i => ((sg.filter It.isGlue).take i).map It.shr) rfl (fun i => ?_) (er_of (ev_var rfl) fun H2 e2 => ⟨ga, rfl, e2 _ _ hga_n⟩) ?_) fun v H2 _ h => ?_)) ?_) rfl LL.cl LL.n10 (by show 9 < 1000; decide) rfl fun Ho eo xo hO => ?_
    · rw [List.length_map]
      exact Nat.lt_of_le_of_lt (take_len _ i 12 glen) (by decide)
    · intro i x H2 e2 hx
      obtain ⟨y, hy⟩ : ∃ y, (sg.filter It.isGlue)[i]? = some y := by
        have h1 : i < gacc.length := (List.getElem?_eq_some_iff.mp hx).1
        exact ⟨_, List.getElem?_eq_getElem (by omega)⟩
      obtain ⟨x', hx', n', s', o', k', rfl, g⟩ := paired_get hgp_n hy
      rw [hx] at hx'
      cases hx'
      have ho2 := out_map It.shr (sg.filter It.isGlue) i hy
      exact turn_name (b := true) rfl et_yes (fun _ => ⟨k', er_of (ev_gprop (ev_var rfl) (gSlot_mono.to _ _ _ _ _ _ _ e2 g) rfl) fun _ _ => rfl, ho2⟩) fun h => nomatch h
    · have h2 := h.fn
      rw [hgl, List.take_length] at h2
      exact h2
    · rw [sum_shr, ← hsg]
      rfl
    -- own_too_full, own_badness, own_tightness, own_is_wrong
    have hta_o := xo _ _ nta hta_n
    refine lf_step (fs' := (lfL (.ref b) (.ref ta) r u p e n).take 11) (v := .int (fullOf r u p e n)) eo h0 hO (ev_is (ev_max2' ev_c (ev_op (ev_un (ev_fld (ev_var rfl) hO LL.cl LL.n8 rfl) ru_neg) (ev_fld (ev_var rfl) hO LL.cl LL.n10 rfl) rv_I0)) ?_) rfl LL.cl LL.n11 (by show 10 < 1000; decide) rfl fun Hp ep xp hP => ?_
    · unfold fullOf
      congr 1
      rw [Int.max_def]
      split <;> split <;> omega
    have hta_p := xp _ _ nta hta_o
    have hrest := hbd.rest p e n
    have hshr : 0 ≤ shrOf r p e ∧ shrOf r p e ≤ 600 := hbd.shr (startOf r p) e
    have hst0 : 0 ≤ strOf r 0 p e ∧ strOf r 0 p e ≤ 600 := hbd.str 0 (startOf r p) e
    have hroom := hbd.room
    refine lf_step (fs' := (lfL (.ref b) (.ref ta) r u p e n).take 12) (v := .int (badOf r u p e n)) ep h0 hP (ev_meth0 (ev_var rfl) hP rfl fun H1 e1 => ⟨a, dx, ta, _, _, _, _, _, _, _, _, rfl, e1 _ _ hP, rfl, rfl, rfl, rfl, e1 _ _ hta_p, by omega, by omega, by omega, rfl⟩) rfl LL.cl LL.n12 (by show 11 < 1000; decide) rfl fun Hq eq xq hQ => ?_
    refine lf_step (fs' := (lfL (.ref b) (.ref ta) r u p e n).take 13) (v := .int (clsOf r u p e n)) eq h0 hQ (ev_calV (ea_cons (ev_fld (ev_var rfl) hQ LL.cl LL.n12 rfl) (ea_cons (ev_fld (ev_var rfl) hQ LL.cl LL.n8 rfl) ea_nil)) fun H1 e1 => ⟨_, _, rfl, rfl⟩) rfl LL.cl LL.n13 (by show 12 < 1000; decide) rfl fun Hr er xr hR => ?_
    refine lf_last (fs' := (lfL (.ref b) (.ref ta) r u p e n).take 14) (v := .bl (wrongOf r u p e n)) er h0 hR (ev_orV (ev_op (ev_fld (ev_var rfl) hR LL.cl LL.n11 rfl) ev_c rv_I0) fun _ => ev_op (ev_fld (ev_var rfl) hR LL.cl LL.n12 rfl) (ev_fld (ev_var rfl) (er _ _ hb) RR.cl RR.nT ruF_tol) rv_I0) rfl LL.cl LL.n14 (by show 13 < 1000; decide) rfl fun Hs es xs hS => ?_
    exact k Hs (.ref ta) es hS
end
end K51
set_option Elab.async false
set_option linter.all false
set_option maxRecDepth 100000
set_option maxHeartbeats 4000000
namespace K51
open PySem PySem.Spec PyProof.Rows L2 Evl
def FactsAt (cR cL : Addr) (H : Hp) (v : V) (r : Row) (u : Ru) (p : Int) (e : Nat) (n : Int) : Prop := ∃ a dx b tv, v = .ref a ∧ H a = some (.ins cL dx (lfL (.ref b) tv r u p e n)) ∧ RulesAt cR H (.ref b) u
theorem FactsAt.mono {cR cL : Addr} {H H' : Hp} {v : V} {r : Row} {u : Ru} {p : Int} {e : Nat} {n : Int} (x : Ex H H') (h : FactsAt cR cL H v r u p e n) : FactsAt cR cL H' v r u p e n := by
  obtain ⟨a, dx, b, tv, h1, h2, h3⟩ := h
  exact ⟨a, dx, b, tv, h1, x _ _ h2, h3.mono x⟩
section
variable {K : PySem.W.Frag} {σ : L2.St} {H : Hp} {te : TE} {ta : TA} {t : TT} {D : Ends} {tz : TS}
/-- if c: x += e -/
theorem q_ifAug {i : Nat} {a c : Int} {b : Bool} (h : EvT t σ H b) (hx : σ[i]? = some (some (.int a))) (he : b = true → Ev te σ H (.int c)) (hσ : σ.set i (some (.int a)) = σ) (k : ∀ H1, Ex H H1 → tz D (σ.set i (some (.int (a + if b then c else 0)))) H1) : tSeq (tIfS t (tAug i te (ipI fun i j => i + j)) tNext) tz D σ H :=
  q_when h (fun hb H1 e1 => s_aug (D := { D with nx := tz D }) hx ((he hb).mono e1) fun H2 e2 => by
    have g := k H2 (e1.trans e2)
    rw [hb, if_pos rfl] at g
    exact g) fun hb H1 e1 => by
    have g := k H1 e1
    rw [hb, if_neg Bool.false_ne_true, Int.add_zero, hσ] at g
    exact g
theorem er_pair {t1 t2 : TE} {v : V} {R : V → Hp → Prop} (mono : ∀ v H H', Ex H H' → R v H → R v H') (h1 : EvR t1 σ H R) (h2 : Ev t2 σ H v) : EvR (tTup (tCons t1 (tCons t2 tNil))) σ H (fun x H' => ∃ w, TupAt H' x [w, v] ∧ R w H') := fun H1 e Q q =>
  h1 H1 e _ fun w H2 e2 r => h2 H2 (e.trans e2) _ fun H3 e3 => ⟨by show 2 ≤ sizeLine; decide, fun p hp => q _ _ ((e2.trans e3).trans (Ex.new hp)) ⟨w, ⟨p, rfl, upd_same⟩, mono _ _ _ (e3.trans (Ex.new hp)) r⟩⟩
theorem er_lf {cG cR cL : Addr} {x : V} {b : Addr} {r : Row} {u : Ru} {p : Int} {e : Nat} {n : Int} (h : EvA ta σ H [x, .ref b, .int p, .int (e : Int), .int n]) (hr : RowAt cG H x r) (hu : RulesAt cR H (.ref b) u) (hb : Bd r u) (hp : Pl r p) (he : e ∈ nexts r u.hyp p) (hn : 1 ≤ n ∧ n ≤ 1000) :
    EvR (tMake cL (sp_lf_init cG cR cL) [] E0 ta) σ H (fun v H2 => FactsAt cR cL H2 v r u p e n) := fun H1 e1 Q q => h H1 e1 _ fun H2 e2 a dx na nd ne => by
  have u2 := hu.mono (e1.trans e2)
  refine ⟨a, dx, b, x, r, u, p, e, n, H2, rfl, na, ?_, upd_same, hr.mono (e1.trans e2), u2, hb, hp, he, hn, fun H3 tv e3 h3 => ⟨rfl, q _ H3 (e2.trans e3) ⟨a, dx, b, tv, rfl, h3, u2.mono e3⟩⟩⟩
  exact Ex.mut (Ex.new nd) na
end
section
variable {P : Program} {w : World} {K : PySem.W.Frag} {mg : Str → Option Value} {base : Heap} {cG cR cL aF : Addr}
abbrev st_LineFacts_demerits_behind : Stmt := inClass (top 57) 2
def nm_LineFacts_demerits_behind : List Str := ["self", "tightness", "is_part", "square", "found"]
theorem sc_LineFacts_demerits_behind : FnScope nm_LineFacts_demerits_behind ["self", "tightness", "is_part"] (defScope st_LineFacts_demerits_behind) := ⟨rfl, rfl, rfl, by decide +kernel, rfl, by decide +kernel, by decide +kernel⟩
def sp_demerits_behind (cR cL : Addr) : Sp := spV fun vs H v => ∃ (a : Addr) (c : Int) (h : Bool) (r : Row) (u : Ru) (p : Int) (e : Nat) (n : Int), vs = [.ref a, .int c, .bl h] ∧ FactsAt cR cL H (.ref a) r u p e n ∧ Bd r u ∧ (-100 ≤ c ∧ c ≤ 100) ∧ v = .int (demOf r u p e n c h)
theorem cls_bd (b r : Int) : 0 ≤ clsBy b r ∧ clsBy b r ≤ 3 := by
  unfold clsBy
  split
  · omega
  · split
    · omega
    · split <;> omega
theorem ok_demerits_behind (T : Tx K mg cG cR cL aF) (LL : LC K cL) (RR : RC K cR) (D : DefM K cL "demerits_behind" "demerits_behind" "LineFacts.demerits_behind" st_LineFacts_demerits_behind) : CalM P w K mg base cL "demerits_behind" ["self", "tightness", "is_part"] 1 (sp_demerits_behind cR cL) := by
  refine calm_of D sc_LineFacts_demerits_behind (fun _ _ _ _ _ _ us hl => match us, hl with | [_, _, _], _ => rfl) (fun vs H Q E h => ?_) (fun f cdv A outer s H vs Q E hr h => ?_)
  · obtain ⟨v, ⟨a, c, h, r, u, p, e, n, rfl, _⟩, _⟩ := h
    rfl
  · obtain ⟨v, ⟨a, c, h, r, u, p, e, n, rfl, ⟨a', dx, b, tv, ha', ha, b', rdx, wa, hb', hb, hw⟩, hbd, hc, rfl⟩, k⟩ := h
    cases ha'
    cases hb'
    refine ⟨_, (pss_cons (ps_set (i := 3) sc_LineFacts_demerits_behind.nd rfl (Or.inl rfl) (pe_op op_pow (pe_fld (pv 0) rfl) pe_int))
      (pss_cons (ps_set (i := 4) sc_LineFacts_demerits_behind.nd rfl (Or.inl rfl) (pe_op op_add (pe_op op_pow (pe_op op_add (pe_fld (pe_fld (pv 0) rfl) rfl) (pe_fld (pv 0) rfl)) pe_int) (pe_ifExp (pt_cmpR op_ge (pe_fld (pv 0) rfl) pe_int (nomark _)) (pv 3) (pe_un un_neg (pv 3)))))
      (pss_cons (ps_if (pt_cmpR op_gt (pe_callB call_abs (by rfl) T.abs_ (by decide +kernel) (pa_cons (pe_op op_sub (pe_fld (pv 0) rfl) (pv 1)) pa_nil)) pe_int (nomark _)) (pss_one (ps_aug (i := 4) sc_LineFacts_demerits_behind.nd rfl (Or.inl rfl) (pe_fld (pe_fld (pv 0) rfl) rfl) ip_add)) pss_nil)
      (pss_cons (ps_if (PW.pt (pw_and (pt_val (pv 2)) (pw_and1 (pt_val (pe_fld (pv 0) rfl))))) (pss_one (ps_aug (i := 4) sc_LineFacts_demerits_behind.nd rfl (Or.inl rfl) (pe_fld (pe_fld (pv 0) rfl) rfl) ip_add)) pss_nil)
      (pss_cons (ps_if (PW.pt (pw_and (pt_val (pv 2)) (pw_and1 (pt_val (pe_fld (pv 0) rfl))))) (pss_one (ps_aug (i := 4) sc_LineFacts_demerits_behind.nd rfl (Or.inl rfl) (pe_fld (pe_fld (pv 0) rfl) rfl) ip_add)) pss_nil)
      (pss_one (ps_ret (pv 4)))))))), ?_⟩
    have hpen := hbd.penOf e
    have hbad := hbd.badOf p e n
    have hline := hbd.line
    refine q_asg (ev_op (ev_fld (ev_var rfl) ha LL.cl LL.n5 rfl) ev_c (rv_I ⟨by decide, by decide, by omega⟩)) fun H1 e1 => ?_
    refine q_asg (v := .int ((u.line + badOf r u p e n) ^ 2 + (if 0 ≤ penOf r u e then (penOf r u e) ^ 2 else -((penOf r u e) ^ 2)))) (ev_op (ev_op (ev_op (ev_fld (ev_fld (ev_var rfl) (e1 _ _ ha) LL.cl LL.n1 rfl) (e1 _ _ hb) RR.cl RR.nL ruF_line) (ev_fld (ev_var rfl) (e1 _ _ ha) LL.cl LL.n12 rfl) rv_I0) ev_c (rv_I ⟨by decide, by decide, by omega⟩))
      (ev_if (v := .int (if 0 ≤ penOf r u e then (penOf r u e) ^ 2 else -((penOf r u e) ^ 2))) (et_test (ev_op (ev_fld (ev_var rfl) (e1 _ _ ha) LL.cl LL.n5 rfl) ev_c rv_I0)) (fun h1 => ?_) fun h1 => ?_) rv_I0) fun H2 e2 => ?_
    · have h1 := of_decide_eq_true h1
      rw [if_pos h1]
      exact ev_var rfl
    · have h1 := of_decide_eq_false h1
      rw [if_neg h1]
      exact ev_un (ev_var rfl) ru_neg
    have ha2 := e2 _ _ (e1 _ _ ha)
    have hb2 := e2 _ _ (e1 _ _ hb)
    refine q_ifAug (b := decide (1 < (clsOf r u p e n - c).natAbs)) (et_is (et_test (ev_op (ev_abs (ev_op (ev_fld (ev_var rfl) ha2 LL.cl LL.n13 rfl) (ev_var rfl) rv_I0)) ev_c rv_I0)) ?_) rfl (fun _ => ev_fld (ev_fld (ev_var rfl) ha2 LL.cl LL.n1 rfl) hb2 RR.cl RR.nU ruF_unl) rfl fun H3 e3 => ?_
    · rw [Bool.eq_iff_iff, decide_eq_true_iff, decide_eq_true_iff]
      split <;> omega
    have ha3 := e3 _ _ ha2
    have hb3 := e3 _ _ hb2
    refine q_ifAug (b := h && (at_ r e).isPart) (et_and (et_B (ev_var rfl)) fun _ => et_B (ev_fld (ev_var rfl) ha3 LL.cl LL.n4 rfl)) rfl (fun _ => ev_fld (ev_fld (ev_var rfl) ha3 LL.cl LL.n1 rfl) hb3 RR.cl RR.nD ruF_dbl) rfl fun H4 e4 => ?_
    have ha4 := e4 _ _ ha3
    have hb4 := e4 _ _ hb3
    refine q_ifAug (b := h && decide (e + 1 = r.length)) (et_and (et_B (ev_var rfl)) fun _ => et_B (ev_fld (ev_var rfl) ha4 LL.cl LL.n3 rfl)) rfl (fun _ => ev_fld (ev_fld (ev_var rfl) ha4 LL.cl LL.n1 rfl) hb4 RR.cl RR.nA ruF_last) rfl fun H5 e5 => ?_
    refine s_ret (ev_var rfl) fun H6 e6 => kz k ?_ (((((e1.trans e2).trans e3).trans e4).trans e5).trans e6)
    unfold demOf
    simp only [decide_eq_true_eq]
/-! ### step_to -/
def nodeV (x : Nd) : List V := [.int x.p, .int x.n, .int x.c, .bl x.h]
/-- the module's own first node -/
def KFst (K : PySem.W.Frag) (aF : Addr) : Prop := ∃ (o : Obj) (its : Array Value) (n : Nat), K.lookup aF = some o ∧ o.cls = .type "tuple" ∧ o.data = .seq its n ∧ its.size ≤ sizeLine ∧ Vals (nodeV first) its.toList
/-- a node's tuple: tracked, or the module's own -/
def NdAt (aF : Addr) (H : Hp) (v : V) (x : Nd) : Prop := TupAt H v (nodeV x) ∨ (v = .ref aF ∧ x = first)
theorem NdAt.mono {aF : Addr} {H H' : Hp} {v : V} {x : Nd} (e : Ex H H') (h : NdAt aF H v x) : NdAt aF H' v x := h.imp (fun h => h.mono e) id
theorem NdAt.sq {K : PySem.W.Frag} {aF : Addr} {H : Hp} {v : V} {x : Nd} (F : KFst K aF) (h : NdAt aF H v x) : ∃ a, v = .ref a ∧ SqT K H a (nodeV x) := by
  rcases h with ⟨a, h1, h2⟩ | ⟨h1, h2⟩
  · exact ⟨a, h1, st_of h2⟩
  · refine ⟨aF, h1, .inr ?_⟩
    rw [h2]
    exact F
/-- a pair of a node and a cost -/
def StepR : Hp → V → Nd × Cost → Prop := fun H v y => ∃ nv cv, TupAt H v [nv, cv] ∧ TupAt H nv (nodeV y.1) ∧ TupAt H cv (costV y.2)
theorem stepR_mono : RMono StepR := fun H H' v y e ⟨nv, cv, h1, h2, h3⟩ => ⟨nv, cv, h1.monoI e, h2.monoI e, h3.monoI e⟩
abbrev st_step_to : Stmt := top 58
def nm_step_to : List Str := ["row", "rules", "node", "end", "place", "number", "tightness", "is_part", "facts", "cost"]
theorem sc_step_to : FnScope nm_step_to ["row", "rules", "node", "end"] (defScope st_step_to) := ⟨rfl, rfl, rfl, by decide +kernel, rfl, by decide +kernel, by decide +kernel⟩
def sp_step_to (cG cR aF : Addr) : Sp := spR fun vs H R => ∃ (x nv : V) (b : Addr) (r : Row) (u : Ru) (nd : Nd) (e : Nat), vs = [x, .ref b, nv, .int (e : Int)] ∧ RowAt cG H x r ∧ RulesAt cR H (.ref b) u ∧ Bd r u ∧ NdAt aF H nv nd ∧ Pl r nd.p ∧ e ∈ nexts r u.hyp nd.p ∧ (0 ≤ nd.n ∧ nd.n ≤ 900) ∧ (0 ≤ nd.c ∧ nd.c ≤ 3) ∧
  R = fun v H2 => StepR H2 v (step r u nd e)
theorem ok_step_to (T : Tx K mg cG cR cL aF) (KF : KFst K aF) (LL : LC K cL) (D : DefAt K mg "step_to" "step_to" "step_to" st_step_to) (c_LineFacts : CalI P w K mg base cL ["self", "row", "rules", "place", "end", "number"] 4 (sp_lf_init cG cR cL))
    (c_demerits_behind : CalM P w K mg base cL "demerits_behind" ["self", "tightness", "is_part"] 1 (sp_demerits_behind cR cL)) : Cal P w K mg base "step_to" ["row", "rules", "node", "end"] 6 (sp_step_to cG cR aF) := by
  refine cal_of D sc_step_to (fun _ _ _ _ _ _ us hl => match us, hl with | [_, _, _, _], _ => rfl) (fun vs H Q E h => ?_) (fun f cdv A outer s H vs Q E hr h => ?_)
  · obtain ⟨R, ⟨x, nv, b, r, u, nd, e, rfl, _⟩, _⟩ := h
    rfl
  · obtain ⟨R, ⟨x, nv, b, r, u, nd, e, rfl, hx, hu, hbd, hnd, hp, he, hn, hc, rfl⟩, k⟩ := h
    obtain ⟨na, rfl, hna⟩ := hnd.sq KF
    refine ⟨_, (pss_cons (ps_asg (pv 2) (pg_tup rfl (pgs_cons (pg_name (i := 4) sc_step_to.nd rfl (Or.inl rfl)) (pgs_cons (pg_name (i := 5) sc_step_to.nd rfl (Or.inl rfl)) (pgs_cons (pg_name (i := 6) sc_step_to.nd rfl (Or.inl rfl)) (pgs_cons (pg_name (i := 7) sc_step_to.nd rfl (Or.inl rfl)) pgs_nil))))))
      (pss_cons (ps_set (i := 8) sc_step_to.nd rfl (Or.inl rfl) (pe_cali c_LineFacts T.g_LineFacts (hr.mono (by decide)) (pa_cons (pv 0) (pa_cons (pv 1) (pa_cons (pv 4) (pa_cons (pv 3) (pa_cons (pe_op op_add (pv 5) pe_int) pa_nil)))))))
      (pss_cons (ps_set (i := 9) sc_step_to.nd rfl (Or.inl rfl) (pe_tup (pa_cons (pe_callTy call_int1 (by rfl) T.int_ (by decide +kernel) (pa_cons (pe_fld (pv 8) rfl) pa_nil)) (pa_cons (pe_fld (pv 8) rfl) (pa_cons (pe_calm c_demerits_behind LL.cl (hr.mono (by decide)) (pv 8) (pa_cons (pv 6) (pa_cons (pv 7) pa_nil))) pa_nil)))))
      (pss_one (ps_ret (pe_tup (pa_cons (pe_tup (pa_cons (pv 3) (pa_cons (pe_op op_add (pv 5) pe_int) (pa_cons (pe_fld (pv 8) rfl) (pa_cons (pe_fld (pv 8) rfl) pa_nil))))) (pa_cons (pv 9) pa_nil)))))))), ?_⟩
    -- place, number, tightness, is_part = node
    have e1 := Ex.refl H
    refine ⟨.ref na, rfl, na, _, rfl, hna, rfl, _, _, rfl, _, _, rfl, _, _, rfl, _, _, rfl, rfl, ?_⟩
    refine q_asgR (er_lf (cL := cL) (ea_cons (ev_var rfl) (ea_cons (ev_var rfl) (ea_cons (ev_var rfl) (ea_cons (ev_var rfl) (ea_cons (ev_op (ev_var rfl) ev_c rv_I0) ea_nil))))) (hx.mono e1) (hu.mono e1) hbd hp he (by omega)) ?_
    rintro fv H2 e2 hf
    obtain ⟨fa, dx, b2, tv, rfl, hfa, hu2⟩ := id hf
    refine q_asgU (eu_tup (ea_cons (ev_intB (ev_fld (ev_var rfl) hfa LL.cl LL.n14 rfl)) (ea_cons (ev_fld (ev_var rfl) hfa LL.cl LL.n11 rfl) (ea_cons (x := .int (demOf r u nd.p e (nd.n + 1) nd.c nd.h)) (by refine ev_meth (a := fa) ?_ hfa rfl (ea_cons (ev_var rfl) (ea_cons (ev_var rfl) ea_nil)) ?_; exact ev_var rfl; exact fun H3 e3 => ⟨fa, nd.c, nd.h, r, u, _, e, _, rfl, hf.mono e3, hbd, by omega, rfl⟩) ea_nil))) (by show 3 ≤ 100000; decide)) fun ca H3 _ e3 hca => ?_
    have hfa3 := e3 _ _ hfa
    -- the pair
    refine s_retR (er_pair (R := fun v H' => TupAt H' v (nodeV (step r u nd e).1)) (v := .ref ca) (fun v H H' e h => h.mono e) (er_tup (ea_cons (ev_var rfl) (ea_cons (ev_op (ev_var rfl) ev_c rv_I0) (ea_cons (ev_fld (ev_var rfl) hfa3 LL.cl LL.n13 rfl) (ea_cons (ev_fld (ev_var rfl) hfa3 LL.cl LL.n4 rfl) ea_nil)))) (by show 4 ≤ 100000; decide)) (ev_var rfl)) fun v H4 e4 h4 => k v H4 (((e1.trans e2).trans e3).trans e4) ?_
    obtain ⟨w1, h5, h6⟩ := h4
    exact ⟨w1, .ref ca, h5, h6, ⟨ca, rfl, e4 _ _ hca⟩⟩
/-! ### steps_from -/
theorem natsV_get {l : List Nat} {i : Nat} {x : V} (h : (natsV l)[i]? = some x) : ∃ e, l[i]? = some e ∧ x = .int (e : Int) := by
  unfold natsV at h
  rw [List.getElem?_map] at h
  obtain ⟨e, h1, h2⟩ := Option.map_eq_some_iff.mp h
  exact ⟨e, h1, h2.symm⟩
theorem nexts_len (r : Row) (hyp p : Int) : (nexts r hyp p).length ≤ r.length := by
  have h1 : ∀ {α : Type} (f : α → Bool) (l : List α), (cutAt f l).length ≤ l.length := by
    intro α f l
    induction l with
    | nil => exact Nat.le_refl _
    | cons x xs ih =>
      show (x :: (if f x then [] else cutAt f xs)).length ≤ xs.length + 1
      rw [List.length_cons]
      split
      · exact Nat.succ_le_succ (Nat.zero_le _)
      · exact Nat.succ_le_succ ih
  unfold nexts places
  refine Nat.le_trans (h1 _ _) (Nat.le_trans (List.length_filter_le _ _) ?_)
  refine Nat.le_trans (List.length_filter_le _ _) ?_
  rw [List.length_range]
  exact Nat.le_refl _
abbrev st_steps_from : Stmt := top 59
def nm_steps_from : List Str := ["row", "rules", "node", "wrong", "steps", "end", "later", "cost"]
theorem sc_steps_from : FnScope nm_steps_from ["row", "rules", "node", "wrong"] (defScope st_steps_from) := ⟨rfl, rfl, rfl, by decide +kernel, rfl, by decide +kernel, by decide +kernel⟩
def sp_steps_from (cG cR aF : Addr) : Sp := spR fun vs H R => ∃ (x nv : V) (b : Addr) (r : Row) (u : Ru) (nd : Nd) (wr : Bool), vs = [x, .ref b, nv, .bl wr] ∧ RowAt cG H x r ∧ RulesAt cR H (.ref b) u ∧ Bd r u ∧ NdAt aF H nv nd ∧ Good r u.hyp nd ∧ (0 ≤ nd.n ∧ nd.n ≤ 900) ∧ (0 ≤ nd.c ∧ nd.c ≤ 3) ∧
  R = fun v H2 => LstR StepR H2 v (outs r u wr nd)
theorem ok_steps_from (T : Tx K mg cG cR cL aF) (KF : KFst K aF) (D : DefAt K mg "steps_from" "steps_from" "steps_from" st_steps_from) (c_step_to : Cal P w K mg base "step_to" ["row", "rules", "node", "end"] 6 (sp_step_to cG cR aF))
    (c_places_behind : Cal P w K mg base "places_behind" ["row", "rules", "place"] 3 (sp_places_behind cG cR)) : Cal P w K mg base "steps_from" ["row", "rules", "node", "wrong"] 7 (sp_steps_from cG cR aF) := by
  refine cal_of D sc_steps_from (fun _ _ _ _ _ _ us hl => match us, hl with | [_, _, _, _], _ => rfl) (fun vs H Q E h => ?_) (fun f cdv A outer s H vs Q E hr h => ?_)
  · obtain ⟨R, ⟨x, nv, b, r, u, nd, wr, rfl, _⟩, _⟩ := h
    rfl
  · obtain ⟨R, ⟨x, nv, b, r, u, nd, wr, rfl, hx, hu, hbd, hnd, hg, hn, hc, rfl⟩, k⟩ := h
    obtain ⟨na, rfl, hna⟩ := hnd.sq KF
    refine ⟨_, (pss_cons (ps_if (pt_cmpR op_eq (pe_ix ix_tup (pv 2) pe_int (fun _ _ => rfl)) (pe_op op_sub (pe_callB call_len_seq (by rfl) T.len_ (by decide +kernel) (pa_cons (pv 0) pa_nil)) pe_int) (nomark _)) (pss_one (ps_ret (pe_lst pa_nil))) pss_nil)
      (pss_cons (ps_setLc (i := 4) (own := [("end", 5)]) rfl sc_steps_from.nd rfl rfl (sw_true rfl rfl rfl (by decide +kernel)) (pi_list (pe_cal c_places_behind (hr.mono (by decide)) (pa_cons (pv 0) (pa_cons (pv 1) (pa_cons (pe_ix ix_tup (pv 2) pe_int (fun _ _ => rfl)) pa_nil))))) (blkOk_by (own := [("end", 5)]) (N := nm_steps_from) (sc := defScope st_steps_from) (by decide +kernel)) (fun _ _ _ _ _ => (pg_name (i := 5) sc_steps_from.nd rfl (Or.inl rfl))) (fun _ _ _ _ _ => pts_nil) (fun _ _ _ _ _ => (pe_cal c_step_to (hr.mono (by decide)) (pa_cons (pv 0) (pa_cons (pv 1) (pa_cons (pv 2) (pa_cons (pv 5) pa_nil)))))))
      (pss_one (ps_ret (pe_lc (own := [("later", 6), ("cost", 7)]) rfl sc_steps_from.nd (pi_list (pv 4)) (blkOk_by (own := [("later", 6), ("cost", 7)]) (N := nm_steps_from) (sc := defScope st_steps_from) (by decide +kernel)) (fun _ _ _ _ _ => (pg_tupK (K := K) (n := 2) rfl (pg_tup rfl (pgs_cons (pg_name (i := 6) sc_steps_from.nd rfl (Or.inl rfl)) (pgs_cons (pg_name (i := 7) sc_steps_from.nd rfl (Or.inl rfl)) pgs_nil))))) (fun _ _ _ _ _ => (pts_one (PW.pt (pw_or (pt_val (pv 3)) (pw_or1 (pt_cmpR op_eq (pe_ix (ix_tupK (K := K) rfl) (pv 7) pe_int (fun _ _ => rfl)) pe_int (nomark _))))))) (fun _ _ _ _ _ => (pe_tup (pa_cons (pv 6) (pa_cons (pv 7) pa_nil))))))))), ?_⟩
    obtain ⟨ra, ws, rfl, hra, hi⟩ := id hx
    have hl := paired_len hi
    refine q_when (b := isEnd r nd) (et_is (et_test (ev_op (ev_op (ev_var rfl) ev_c (rv_ixT hna at0)) (ev_op (ev_lenS (ev_var rfl) (.inr (st_of hra))) ev_c rv_I0) (rv_eq rfl))) (by rw [int_dec, hl]; rfl)) (fun h1 H1 e1 => ?_) fun h1 H1 e1 => ?_
    · refine s_retR (el_er (el_lst ea_nil (by decide))) fun v H2 e2 h2 => k v H2 (e1.trans e2) ?_
      obtain ⟨a, h3, h4⟩ := h2
      unfold outs
      rw [h1, if_pos rfl]
      exact ⟨a, [], h3, h4, .nil⟩
    · have hp := hg.pl h1
      have nl := nexts_len r u.hyp nd.p
      have l12 := hbd.len
      refine q_asgR (R := fun v H' => LstR StepR H' v (steps r u nd)) (er_imp (er_lcL (R := StepR) stepR_mono (xs := natsV (nexts r u.hyp nd.p)) (fun i => ((nexts r u.hyp nd.p).take i).map (step r u nd)) rfl (fun i => ?_) (ev_calR (ea_cons (ev_var rfl) (ea_cons (ev_var rfl) (ea_cons (ev_op (ev_var rfl) ev_c (rv_ixT (ex_t e1 hna) at0)) ea_nil))) fun H2 e2 => ⟨_, _, r, u, nd.p, rfl, hx.mono (e1.trans e2), hu.mono (e1.trans e2), hbd.ok, hp, by omega, rfl⟩) ?_) fun v H2 _ h => ?_) ?_
      · rw [List.length_map]
        exact Nat.lt_of_le_of_lt (take_len _ i 12 (by omega)) (by decide)
      · intro i z H2 e2 hz
        obtain ⟨e, he, rfl⟩ := natsV_get hz
        refine turn_name (b := true) rfl et_yes (fun _ => ⟨step r u nd e, ev_calR (ea_cons (ev_var rfl) (ea_cons (ev_var rfl) (ea_cons (ev_var rfl) (ea_cons (ev_var rfl) ea_nil)))) fun H3 e3 => ⟨_, _, b, r, u, nd, e, rfl, hx.mono ((e1.trans e2).trans e3), hu.mono ((e1.trans e2).trans e3), hbd, hnd.mono ((e1.trans e2).trans e3), hp, List.mem_of_getElem? he, hn, hc, rfl⟩, out_map _ _ _ he⟩) fun h => nomatch h
      · have e : (natsV (nexts r u.hyp nd.p)).length = (nexts r u.hyp nd.p).length := List.length_map ..
        rw [e, List.take_length] at h
        exact h
      rintro sv H2 e2 ⟨sa, acc, rfl, hsa, hpp⟩
      have hal := paired_len hpp
      have sl : (steps r u nd).length ≤ 12 := by
        unfold steps
        rw [List.length_map]
        omega
      refine s_retR (R := fun v H' => LstR StepR H' v (outs r u wr nd)) (er_imp (er_lcL (R := StepR) stepR_mono (xs := acc) (fun i => ((steps r u nd).take i).filter fun y => wr || decide (y.2.1 = 0)) rfl (fun i => Nat.lt_of_le_of_lt (Nat.le_trans (List.length_filter_le _ _) (take_len _ i 12 sl)) (by decide)) (er_of (ev_var rfl) fun H3 e3 => ⟨sa, rfl, e3 _ _ hsa⟩) ?_) fun v H3 _ h => ?_) fun v H3 e3 h => k v H3 ((e1.trans e2).trans e3) h
      · intro i z H3 e3 hz
        obtain ⟨y, hy⟩ : ∃ y, (steps r u nd)[i]? = some y := by
          have h1 : i < acc.length := (List.getElem?_eq_some_iff.mp hz).1
          exact ⟨_, List.getElem?_eq_getElem (by omega)⟩
        obtain ⟨z', hz', hs⟩ := paired_get hpp hy
        rw [hz] at hz'
        cases hz'
        obtain ⟨nv, cv, h5, ⟨na2, rfl, h6⟩, ⟨ca, rfl, h7⟩⟩ := hs
        have ho := out_filter (fun (y : Nd × Cost) => wr || decide (y.2.1 = 0)) (fun y => y) (steps r u nd) i hy
        simp only [List.map_id'] at ho
        refine turn_two (h5.mono e3) rfl (b := wr || decide (y.2.1 = 0)) (et_or (et_B (ev_var rfl)) fun _ => et_is (et_test (ev_op (ev_ixT (ev_var rfl) ev_c (e3 _ _ h7) at0) ev_c (rv_eq rfl))) (int_dec _ _)) (fun hb => ⟨y, er_imp (er_tup (ea_cons (ev_var rfl) (ea_cons (ev_var rfl) ea_nil)) (by show 2 ≤ 100000; decide)) fun v H4 e4 h => ⟨_, _, h, ⟨na2, rfl, e4 _ _ (e3 _ _ h6)⟩, ⟨ca, rfl, e4 _ _ (e3 _ _ h7)⟩⟩, ?_⟩) fun hb => ?_
        · rw [ho, hb]
          rfl
        · rw [ho, hb]
          exact List.append_nil _
      · rw [hal, List.take_length] at h
        unfold outs
        rw [h1, if_neg Bool.false_ne_true]
        exact h
end
end K51
set_option Elab.async false
set_option linter.all false
set_option maxRecDepth 100000
set_option maxHeartbeats 4000000
namespace K51
open PySem PySem.Spec PyProof.Rows L2 Evl
/-! ### a dict with nodes as keys -/
def ibIs : Int → Value → Bool
  | k, .int i _ => i == k
  | k, .bool b => (if b = true then (1 : Int) else 0) == k
  | _, _ => false
theorem ibIs_shape {k : Int} {v : Value} (h : ibIs k v = true) : (∃ t, v = .int k t) ∨ ∃ b : Bool, v = .bool b ∧ k = if b = true then 1 else 0 := by
  cases v with
  | int i t => exact .inl ⟨t, by rw [eq_of_beq (show (i == k) = true from h)]⟩
  | bool b => exact .inr ⟨b, rfl, (eq_of_beq (show ((if b = true then (1 : Int) else 0) == k) = true from h)).symm⟩
  | _ => exact absurd h Bool.false_ne_true
theorem beqI (a b : Int) : (a == b) = decide (a = b) := Bool.beq_eq_decide_eq ..
def ibKind (prog : Program) (w : World) : PySem.KeyKind prog w Int where
  is := ibIs
  hash := hashInt
  inj := fun v a b ha hb => by
    rcases ibIs_shape ha with ⟨t, rfl⟩ | ⟨x, rfl, rfl⟩
    · rcases ibIs_shape hb with ⟨u, e⟩ | ⟨y, e, _⟩
      · injection e
      · exact nomatch e
    · rcases ibIs_shape hb with ⟨u, e⟩ | ⟨y, e, rfl⟩
      · exact nomatch e
      · injection e with e
        rw [e]
  byValue := fun k v h => by
    rcases ibIs_shape h with ⟨t, rfl⟩ | ⟨x, rfl, rfl⟩ <;> rfl
  pyHash := fun hv h => by
    rcases ibIs_shape hv with ⟨t, rfl⟩ | ⟨x, rfl, rfl⟩
    · exact wpAny_pyHash_int h
    · exact PpSet.pyHash_bool h
  eqBool := fun {A E s a b u v Q} hu hv h => by
    rcases ibIs_shape hu with ⟨t, rfl⟩ | ⟨x, rfl, rfl⟩
    · rcases ibIs_shape hv with ⟨j, rfl⟩ | ⟨y, rfl, rfl⟩
      · exact SeqAt.EqAt.int_int _ _ _ _ _ _ _ _ (by rw [beqI]; exact h)
      · exact SeqAt.EqAt.int_bool _ _ _ _ _ _ _ (by rw [beqI]; exact h)
    · rcases ibIs_shape hv with ⟨j, rfl⟩ | ⟨y, rfl, rfl⟩
      · exact SeqAt.EqAt.bool_int _ _ _ _ _ _ _ (by rw [beqI]; exact h)
      · refine SeqAt.EqAt.bool_bool _ _ _ _ _ _ ?_
        have e : (x == y) = decide ((if x = true then (1 : Int) else 0) = if y = true then 1 else 0) := by cases x <;> cases y <;> rfl
        rw [e]
        exact h
  «strs» := fun k x t v h => absurd h Bool.false_ne_true
def nodeK (x : Nd) : List Int := [x.p, x.n, x.c, if x.h = true then 1 else 0]
theorem nodeK_inj {x y : Nd} (h : nodeK x = nodeK y) : x = y := by
  obtain ⟨a, b, c, d⟩ := x
  obtain ⟨a', b', c', d'⟩ := y
  unfold nodeK at h
  simp only [List.cons.injEq, and_true] at h
  obtain ⟨h1, h2, h3, h4⟩ := h
  have : d = d' := by cases d <;> cases d' <;> first | rfl | (simp at h4)
  rw [h1, h2, h3, this]
theorem node_items {P : Program} {w : World} {x : Nd} {us : List Value} (r : Vals (nodeV x) us) : ItemsAre (ibKind P w) (nodeK x) us := by
  cases r with
  | cons h1 r => cases r with
    | cons h2 r => cases r with
      | cons h3 r => cases r with
        | cons h4 r =>
          cases r
          obtain ⟨t1, rfl⟩ := h1
          obtain ⟨t2, rfl⟩ := h2
          obtain ⟨t3, rfl⟩ := h3
          cases h4
          exact .cons (beq_self_eq_true _) (.cons (beq_self_eq_true _) (.cons (beq_self_eq_true _) (.cons (beq_self_eq_true _) .nil)))
theorem node_key {X : Cx} {pins : List (Addr × Obj)} {σ : L2.St} {H : Hp} {s : Shared} {a : Addr} {x : Nd} (I : Inv X pins σ H s) (e : SqT X.K H a (nodeV x)) : (tupleKind (ibKind X.prog X.w)).is s.heap (nodeK x) a := by
  obtain ⟨its, r, ⟨o, h1, h2, n, h3⟩, _⟩ := I.tuple e
  exact ⟨o, its.toArray, n, h1, h2, h3, by simpa using node_items r⟩
abbrev Es := List (Nd × Addr × V)
def esGet (es : Es) (x : Nd) : Option V := (es.find? fun e => decide (e.1 = x)).map (·.2.2)
def esPut (es : Es) (x : Nd) (b : Addr) (v : V) : Es := if (es.any fun e => decide (e.1 = x)) = true then es.map (fun e => if e.1 = x then (e.1, e.2.1, v) else e) else es ++ [(x, b, v)]
theorem esGet_pos {p : Nd × Addr × V} {r : Es} {k : Nd} (e : p.1 = k) : esGet (p :: r) k = some p.2.2 := by simp [esGet, List.find?_cons, e]
theorem esGet_neg {p : Nd × Addr × V} {r : Es} {k : Nd} (e : ¬ p.1 = k) : esGet (p :: r) k = esGet r k := by simp [esGet, List.find?_cons, e]
theorem esGet_any (k : Nd) : ∀ es : Es, (es.any fun e => decide (e.1 = k)) = (esGet es k).isSome
  | [] => rfl
  | p :: r => by
    rw [List.any_cons]
    by_cases e : p.1 = k
    · simp only [esGet_pos e, decide_eq_true e, Bool.true_or, Option.isSome_some]
    · rw [esGet_neg e, decide_eq_false e, Bool.false_or]
      exact esGet_any k r
theorem esPut_len (es : Es) (x : Nd) (b : Addr) (v : V) : (esPut es x b v).length ≤ es.length + 1 := by
  unfold esPut
  split
  · rw [List.length_map]
    omega
  · rw [List.length_append]
    exact Nat.le_refl _
abbrev FdP : Es → List (List Int × Addr × Value) → Prop := Paired fun p q => q.1 = nodeK p.1 ∧ q.2.1 = p.2.1 ∧ RelV p.2.2 q.2.2
theorem FdP.val {es : Es} {xs : List (List Int × Addr × Value)} (r : FdP es xs) (k : Nd) : RelO (esGet es k) ((atKey xs (nodeK k)).map (·.2)) := by
  induction r with
  | nil => exact True.intro
  | @cons p q ps qs h t ih =>
    obtain ⟨h1, _, h2⟩ := h
    by_cases e : p.1 = k
    · have e' : q.1 = nodeK k := by rw [h1, e]
      have b : atKey (q :: qs) (nodeK k) = some q.2 := by simp [atKey, List.find?_cons, e']
      rw [esGet_pos e, b]; exact h2
    · have e' : ¬ q.1 = nodeK k := fun z => e (nodeK_inj (h1.symm.trans z))
      have b : atKey (q :: qs) (nodeK k) = atKey qs (nodeK k) := by simp [atKey, List.find?_cons, e']
      rw [esGet_neg e, b]; exact ih
theorem FdP.repl {es : Es} {xs : List (List Int × Addr × Value)} (r : FdP es xs) (k : Nd) {y : V} {u : Value} (ry : RelV y u) :
    FdP (es.map fun e => if e.1 = k then (e.1, e.2.1, y) else e) (xs.map (putAt (nodeK k) u)) := by
  induction r with
  | nil => exact .nil
  | @cons p q ps qs h t ih =>
    rw [List.map_cons, List.map_cons]
    refine .cons ?_ ih
    obtain ⟨h1, h2, h3⟩ := h
    unfold putAt
    by_cases e : p.1 = k
    · rw [if_pos e, if_pos (by rw [h1, e])]; exact ⟨h1, h2, ry⟩
    · rw [if_neg e, if_neg (fun z => e (nodeK_inj (h1.symm.trans z)))]; exact ⟨h1, h2, h3⟩
theorem FdP.put {es : Es} {xs : List (List Int × Addr × Value)} (r : FdP es xs) (k : Nd) {b : Addr} {y : V} {u : Value} (ry : RelV y u) : FdP (esPut es k b y) (storedH xs (nodeK k) b u) := by
  have e : (es.any fun e => decide (e.1 = k)) = (atKey xs (nodeK k)).isSome := by
    rw [esGet_any, (r.val k).isSome_eq, Option.isSome_map]
  unfold esPut storedH
  rw [e]
  by_cases q : (atKey xs (nodeK k)).isSome = true
  · rw [if_pos q, if_pos q]; exact r.repl k ry
  · rw [if_neg q, if_neg q]; exact PySem.Paired.snoc r ⟨rfl, rfl, ry⟩
def FdPhi (P : Program) (w : World) (a : Addr) (es : Es) (h : Heap) : Prop := es.length ≤ sizeLine ∧ (a == sysModules) = false ∧ ∃ xs : List (List Int × Addr × Value), FdP es xs ∧
  ∃ o eo ep, h.get? a = some o ∧ o.ExactDict ∧ o.data = .dict eo ep ∧ eo.toList = xs.map (entryOfKey (tupleKind (ibKind P w))) ∧ (xs.map (·.1)).Nodup
def FdO (P : Program) (w : World) (a : Addr) (es : Es) : HO := .ext (FdPhi P w a es)
/-- the keys' tuples -/
def KeysAt (K : PySem.W.Frag) (H : Hp) (es : Es) : Prop := ∀ e ∈ es, SqT K H e.2.1 (nodeV e.1)
def FdH (P : Program) (w : World) (K : PySem.W.Frag) (H : Hp) (a : Addr) (es : Es) : Prop := Rd H a (FdO P w a es) ∧ KeysAt K H es
theorem FdPhi.at {P : Program} {w : World} {a : Addr} {es : Es} {h h' : Heap} (x : FdPhi P w a es h) (k : ∀ o, h.get? a = some o → h'.get? a = some o) : FdPhi P w a es h' := by
  obtain ⟨z, y, xs, r, o, eo, ep, ho, rest⟩ := x
  exact ⟨z, y, xs, r, o, eo, ep, k o ho, rest⟩
theorem fd_new {P : Program} {w : World} {H : Hp} {h : Heap} {a : Addr} {es : Es} (x : FdPhi P w a es h) : ObjOk P w H h a (FdO P w a es) := by
  obtain ⟨z, y, xs, r, o, eo, ep, ho, rest⟩ := id x
  exact ⟨x, ⟨o, ho⟩, fun h1 h2 p k => p.at k⟩
theorem fd_phi {P : Program} {w : World} {H : Hp} {h : Heap} {a : Addr} {es : Es} (ok : HOk P w H h) (e : Rd H a (FdO P w a es)) : FdPhi P w a es h := (show ObjOk P w H h a (FdO P w a es) from rd_of ok e).1
theorem fd_rd {X : Cx} {pins : List (Addr × Obj)} {σ : L2.St} {H : Hp} {s : Shared} {a : Addr} {es : Es} (I : Inv X pins σ H s) (e : FdH X.prog X.w X.K H a es) : es.length ≤ sizeLine ∧ (a == sysModules) = false ∧ ∃ xs, FdP es xs ∧ s.heap.DictOfH (tupleKind (ibKind X.prog X.w)) a xs := by
  obtain ⟨z, y, xs, r, o, eo, ep, h1, h2, h3, h4, h5⟩ := fd_phi I.hok e.1
  refine ⟨z, y, xs, r, o, eo, ep, h1, h2, h3, h4, fun x hx => ?_, h5⟩
  have all : ∀ {l : Es} {m : List (List Int × Addr × Value)}, FdP l m → (∀ e ∈ l, SqT X.K H e.2.1 (nodeV e.1)) → ∀ x ∈ m, (tupleKind (ibKind X.prog X.w)).is s.heap x.1 x.2.1 := by
    intro l m q
    induction q with
    | nil => intro _ x hx; exact nomatch hx
    | @cons p q ps qs hq t ih =>
      intro hk x hx
      rcases List.mem_cons.mp hx with e | hx
      · subst e
        rw [hq.1, hq.2.1]
        exact node_key I (hk p List.mem_cons_self)
      · exact ih (fun e he => hk e (List.mem_cons_of_mem _ he)) x hx
  exact all r e.2 x hx
/-- d[y], y in d by the node -/
def rFdGet (P : Program) (w : World) (K : PySem.W.Frag) : R2 := fun x y H Q => ∃ a es nd b v, x = .ref a ∧ FdH P w K H a es ∧ y = .ref b ∧ SqT K H b (nodeV nd) ∧ esGet es nd = some v ∧ Q v H
def rFdNotIn (P : Program) (w : World) (K : PySem.W.Frag) : R2 := fun y x H Q => ∃ a es nd b, x = .ref a ∧ FdH P w K H a es ∧ y = .ref b ∧ SqT K H b (nodeV nd) ∧ Q (.bl (!(esGet es nd).isSome)) H
section
variable {X : Cx} {o i e : Expr} {pos : Pos} {td ty : TE}
theorem pe_fdget (hu : X.A.units + 1 < cLine) (ho : PE X o td) (hi : PE X i ty) (hs : NoSl i) : PE X (.Subscript o i pos) (tOp (rFdGet X.prog X.w X.K) td ty) := by
  refine ⟨fun pins s σ H Q I h => ?_⟩
  refine subD_of PySem.F.slot_dict_getitem.lookup hs (thn (ho.run pins s σ H _ I h) fun u s1 ⟨x, H1, I1, rx, q1⟩ => thn (hi.run pins s1 σ H1 _ I1 q1) fun iv s2 ⟨y, H2, I2, ry, q⟩ => ?_)
  obtain ⟨a, es, nd, b, v, rfl, hf, rfl, hb, hv, q2⟩ := q
  obtain rfl : u = Value.ref a := rx
  obtain rfl : iv = Value.ref b := ry
  obtain ⟨z, hd, xs, rel, dd⟩ := fd_rd I2 hf
  obtain ⟨w', hw, rw'⟩ := RelO.some_of (v := v) (o := (atKey xs (nodeK nd)).map (·.2)) (by rw [← hv]; exact rel.val nd)
  obtain ⟨p, hp, hp2⟩ := Option.map_eq_some_iff.mp hw
  refine ⟨dd.typeIs, wpAny_getItem_heap (tupleKind_room_in1 hu) (node_key I2 hb) dd hp ?_⟩
  rw [hp2]
  exact ⟨v, H2, I2.tok _, rw', q2⟩
theorem op_fdnotin (hu : X.A.units + 1 < cLine) : OpR X (compareOp .NotIn) (rFdNotIn X.prog X.w X.K) := by
  intro pins s σ H y x u v Q I ry rx h
  obtain ⟨a, es, nd, b, rfl, hf, rfl, hb, q2⟩ := h
  obtain rfl : v = Value.ref a := rx
  obtain rfl : u = Value.ref b := ry
  obtain ⟨z, hd, xs, rel, dd⟩ := fd_rd I hf
  refine wpAny_notIn_heap (tupleKind_room_in1 hu) (node_key I hb) hd dd ?_
  have q := (rel.val nd).isSome_eq
  rw [Option.isSome_map] at q
  rw [← q]
  exact ⟨.bl (!(esGet es nd).isSome), H, I.tok _, rfl, q2⟩
def rFdSet (P : Program) (w : World) (K : PySem.W.Frag) : V → V → V → Hp → (Hp → Prop) → Prop := fun x y v H Q => ∃ a es nd b, x = .ref a ∧ H a = some (FdO P w a es) ∧ KeysAt K H es ∧ y = .ref b ∧ SqT K H b (nodeV nd) ∧ es.length < sizeLine ∧ Q (upd H a (FdO P w a (esPut es nd b v)))
theorem set_fd (hu : X.A.units + 1 < cLine) : PSet X (rFdSet X.prog X.w X.K) := by
  intro pins s σ H o i v ov iv u Q I ro ri rv h
  obtain ⟨a, es, nd, b, rfl, hf, hk, rfl, hb, hl, q⟩ := h
  cases (show ov = Value.ref a from ro)
  cases (show iv = Value.ref b from ri)
  obtain ⟨z, hd, xs, rel, dd⟩ := fd_rd I ⟨.inl hf, hk⟩
  have hz : xs.length ≤ sizeLine := by rw [← PySem.Paired.length rel]; exact z
  refine wpAny_setItem_heap (hsz := hz) (tupleKind_room_in1 hu) (node_key I hb) dd fun h' dd' hs => ⟨_, ?_, q⟩
  obtain ⟨o', eo, ep, hq, h2, h3, h4, _, h5⟩ := dd'
  have hl2 := esPut_len es nd b v
  exact d_write I (by rw [hf]; exact True.intro) hs ⟨o', hq⟩ (fd_new ⟨by omega, hd, _, rel.put nd rv, o', eo, ep, hq, h2, h3, h4, h5⟩)
def rLenFd (P : Program) (w : World) (K : PySem.W.Frag) : List V → Hp → VK → Prop := fun xs H Q => ∃ (p : Addr) (es : Es), xs = [.ref p] ∧ FdH P w K H p es ∧ Q (.int ((es.length : Nat) : Int)) H
theorem call_len_fd : CallR X (.builtin "len") (rLenFd X.prog X.w X.K) := by
  intro pins s σ H xs us Q I r h
  obtain ⟨p, es, rfl, hp, q⟩ := h
  obtain ⟨u, rfl, rx⟩ := vals1 r
  obtain rfl : u = .ref p := rx
  obtain ⟨z, hd, ys, rel, dd⟩ := fd_rd I hp
  have hl : es.length = ys.length := PySem.Paired.length rel
  refine call_len_dictH hd dd (by rw [← hl]; rw [sizeLine_eq] at z; omega) ?_
  rw [← hl]
  exact ⟨.int ((es.length : Nat) : Int), H, I.tok _, ⟨_, rfl⟩, q⟩
/-! the keys in their order -/
theorem Inv.frzFd {pins : List (Addr × Obj)} {σ : L2.St} {H : Hp} {s : Shared} {d : Addr} {o : Obj} {es : Es} (I : Inv X pins σ H s) (h : H d = some (.frz o (FdO X.prog X.w d es))) :
    (d == sysModules) = false ∧ s.heap.get? d = some o ∧ o.ExactDict ∧ ∃ (eo : Array DictEntry) (ep : Nat), o.data = .dict eo ep ∧ eo.size = es.length ∧
      ∀ (i : Nat) (k : Nd) (b : Addr) (v : V), es[i]? = some (k, b, v) → ∃ (en : DictEntry), eo[i]? = some en ∧ en.key = .ref b := by
  obtain ⟨hd, ph, _⟩ := I.hok d _ h
  obtain ⟨z, hs, xs, pr, o', eo, ep, ho, hx, hdt, he, _⟩ := ph
  rw [hd] at ho
  cases ho
  refine ⟨hs, hd, hx, eo, ep, hdt, ?_, fun i k b v e => ?_⟩
  · have l1 : eo.size = xs.length := size_of_entries he
    have l2 : es.length = xs.length := PySem.Paired.length pr
    omega
  · obtain ⟨y, hb, e1, e2, _⟩ := L2.paired_get pr e
    have q := entry_at he i
    rw [hb] at q
    exact ⟨_, q, congrArg Value.ref e2⟩
def Itf (P : Program) (w : World) (d : Addr) (o : Obj) (es : Es) : L2.It :=
  ⟨fun i H => H d = some (.frz o (FdO P w d es)) ∧ i < es.length, fun i H x H' => H' = H ∧ ∃ (k : Nd) (b : Addr) (v : V), es[i]? = some (k, b, v) ∧ x = .ref b, fun i H => H d = some (.frz o (FdO P w d es)) ∧ es.length ≤ i⟩
theorem turn_fd {P : Program} {w : World} {K : PySem.W.Frag} {tg : Expr} {d : Addr} {o : Obj} {eo : Array DictEntry} {ep : Nat} {es : Es} (it : Addr) (hod : o.data = .dict eo ep) : Turn P w K tg (Itf P w d o es) [it] it (fun i h => h.IsKeyIter it d i es.length ep) where
  mem := by simp
  obj := fun i h st b hb => by
    have e : b = it := by simpa using hb
    subst e
    obtain ⟨oi, e, c, dd⟩ := st
    exact ⟨oi, e, fun v z => by rw [dd] at z; cases z⟩
  keep := fun i h h' st k => st.at fun oi e => k it (by simp) oi e
  item := by
    intro X hP hw hK hc i pins s σ H E I hf st hg
    subst hP hw hK
    obtain ⟨hd, hi⟩ := hg
    obtain ⟨f0, f1, f2, f3, f4, f5⟩ := hf it (by simp)
    obtain ⟨hs, hgd, hx, es', ep', hdt, hsz, ent⟩ := K51.Inv.frzFd I hd
    obtain ⟨rfl, rfl⟩ := dict_ep hod hdt
    obtain ⟨⟨k, b, v⟩, hkv⟩ : ∃ p, es[i]? = some p := ⟨es[i], List.getElem?_eq_getElem hi⟩
    obtain ⟨en, hen, hkey⟩ := ent i k b v hkv
    refine next_key_item st hgd hdt hsz hen fun h' st' sb => ?_
    have I1 : Inv X pins σ H { s with heap := h' } := I.turned (t' := s.toks) (fun b ob hb e => (sb.2 b hb).trans e) f0 f1 f3 f4 f5
    obtain ⟨oi, e, c, dd⟩ := id st'
    exact ⟨en.key, rfl, go_of (s := { s with heap := h' }) e c dd (by decide) ⟨.ref b, H, I1, hkey, ⟨rfl, k, b, v, hkv, rfl⟩, st', fun b hb => (hf b hb).1⟩⟩
  done := by
    intro X hP hw hK hc i pins s σ H E I hf st hg
    subst hP hw hK
    obtain ⟨hd, hi⟩ := hg
    obtain ⟨f0, f1, f2, f3, f4, f5⟩ := hf it (by simp)
    obtain ⟨hs, hgd, hx, es', ep', hdt, hsz, ent⟩ := K51.Inv.frzFd I hd
    obtain ⟨rfl, rfl⟩ := dict_ep hod hdt
    exact next_key_end (I.ok.hd hc) st hgd hdt hsz hi fun h' eb => ⟨rfl, I.turned (t' := s.toks) (fun b ob hb e => eb b ob hb e) f0 f1 f3 f4 f5⟩
  self := fun A i s Q E st h => by
    refine wpAny_pyIter_slot st.typeIs F.slot_dict_keyiterator_iter (wpAny_call_entry F.slot_dict_keyiterator_iter st.typeIs F.entry_dict_keyiterator_iter ?_ (F.args_dict_keyiterator_iter_1 _))
    show wpAny _ _ (ret (.ref it)) _ _ s
    exact wpAny_pure ⟨_, rfl, "dict_keyiterator", _, st.typeIs, F.slot_dict_keyiterator_next.lookup, h⟩
def iFd (P : Program) (w : World) (td : TE) : TI := fun σ H R => td σ H fun x H1 => ∃ d o es, x = .ref d ∧ H1 d = some (.frz o (FdO P w d es)) ∧ R (Itf P w d o es) H1
theorem pi_fdkeys {tg : Expr} (he : PE X e td) : PI X tg e (iFd X.prog X.w td) := by
  refine ⟨fun pins s σ H R I h => ?_⟩
  refine thn (he.run pins s σ H _ I h) fun u s1 ⟨x, H1, I1, rx, d, o, es, ex, hd, q⟩ => ?_
  subst ex
  obtain rfl : u = Value.ref d := rx
  obtain ⟨hs, hgd, hx, es', ep, hdt, hsz, ent⟩ := K51.Inv.frzFd I1 hd
  refine iter_keys hs hgd hx hdt (pi_one (tk := s1.toks) I1 _ (turn_fd _ hdt) ⟨_, Heap.get?_push_size _ rfl, rfl, ?_⟩ q)
  rw [hsz] <;> rfl
/-- {node: v} -/
def tFd1 (P : Program) (w : World) (K : PySem.W.Frag) (tk tv : TE) : TE := fun σ H Q => ∀ p, H p = none → tk σ (upd H p (FdO P w p [])) fun x H1 => tv σ H1 fun v H2 => ∃ b nd, x = .ref b ∧ SqT K H2 b (nodeV nd) ∧ H2 p = some (FdO P w p []) ∧ Q (.ref p) (upd H2 p (FdO P w p [(nd, b, v)]))
theorem pe_fd1 {k v : Expr} {tk tv : TE} (hu : X.A.units < cLine) (hk : PE X k tk) (hv : PE X v tv) : PE X (.Dict [some k] [v] pos) (tFd1 X.prog X.w X.K tk tv) := by
  refine ⟨fun pins s σ H Q I q => ?_⟩
  have hn := I.hok.fresh (Nat.le_refl s.heap.objs.size)
  have hsm : (s.heap.objs.size == sysModules) = false := beq_eq_false_iff_ne.mpr (Ne.symm (Nat.ne_of_lt I.big))
  have ph : FdPhi X.prog X.w s.heap.objs.size [] (s.heap.push { cls := .type "dict", data := .dict #[] }) := ⟨Nat.zero_le _, hsm, [], .nil, _, #[], 0, Heap.get?_push_size _ rfl, ⟨rfl, rfl, rfl⟩, rfl, rfl, List.nodup_nil⟩
  have I1 := I.laid (a := s.heap.objs.size) (o := FdO X.prog X.w s.heap.objs.size []) (h' := s.heap.push { cls := .type "dict", data := .dict #[] }) (t' := s.toks) (fun _ _ q => Heap.get?_push_of_some _ q) (Nat.le_refl _) (fd_new ph)
  rw [arm_eval_Dict, zip_pairTrees [some k] [v] X.env pos rfl rfl, dictDisplay_pairs _ (by exact fun h => nomatch h) (by show 1 < 17; decide)]
  refine wpAny_bind (wpAny_standAt (wpAny_bind (wpAny_subDictH (knd := tupleKind (ibKind X.prog X.w)) hu (by show 1 ≤ 15; decide) (pairTrees_cons_walk (thn (hk.run pins _ σ _ _ I1 (q _ hn)) fun kv s2 ⟨x, H1, I2, rx, q1⟩ => thn (hv.run pins s2 σ H1 _ I2 q1) fun vv s3 ⟨y, H2, I3, ry, b, nd, ex, hb, hp, q2⟩ => pairTrees_nil_walk ?_)))))
  subst ex
  cases (show kv = Value.ref b from rx)
  obtain ⟨z, hd, xs, rel, dd⟩ := fd_rd I3 ⟨.inl hp, fun e he => nomatch he⟩
  cases rel
  refine ⟨[(nodeK nd, b, vv)], ⟨rfl, rfl, node_key I3 hb, True.intro⟩, dd, fun h' tk dd' hs => wpAny_pure ⟨.ref s.heap.objs.size, _, ?_, rfl, q2⟩⟩
  obtain ⟨o', eo, ep, hq, h2, h3, h4, _, h5⟩ := dd'
  exact d_write I3 (by rw [hp]; exact True.intro) hs ⟨o', hq⟩ (fd_new ⟨by show 1 ≤ sizeLine; decide, hd, _, .cons ⟨rfl, rfl, ry⟩ .nil, o', eo, ep, hq, h2, h3, h4, h5⟩)
variable {P : Program} {w : World} {K : PySem.W.Frag}
theorem pe_fdgetP (hP : X.prog = P) (hw : X.w = w) (hK : X.K = K) (hu : X.A.units + 1 < cLine) (ho : PE X o td) (hi : PE X i ty) (hs : NoSl i) : PE X (.Subscript o i pos) (tOp (rFdGet P w K) td ty) := by
  subst hP hw hK
  exact pe_fdget hu ho hi hs
theorem op_fdnotinP (hP : X.prog = P) (hw : X.w = w) (hK : X.K = K) (hu : X.A.units + 1 < cLine) : OpR X (compareOp .NotIn) (rFdNotIn P w K) := by
  subst hP hw hK
  exact op_fdnotin hu
theorem set_fdP (hP : X.prog = P) (hw : X.w = w) (hK : X.K = K) (hu : X.A.units + 1 < cLine) : PSet X (rFdSet P w K) := by
  subst hP hw hK
  exact set_fd hu
theorem call_len_fdP (hP : X.prog = P) (hw : X.w = w) (hK : X.K = K) : CallR X (.builtin "len") (rLenFd P w K) := by
  subst hP hw hK
  exact call_len_fd
theorem pi_fdkeysP {tg : Expr} (hP : X.prog = P) (hw : X.w = w) (he : PE X e td) : PI X tg e (iFd P w td) := by
  subst hP hw
  exact pi_fdkeys he
theorem pe_fd1P {k v : Expr} {tk tv : TE} (hP : X.prog = P) (hw : X.w = w) (hK : X.K = K) (hu : X.A.units < cLine) (hk : PE X k tk) (hv : PE X v tv) : PE X (.Dict [some k] [v] pos) (tFd1 P w K tk tv) := by
  subst hP hw hK
  exact pe_fd1 hu hk hv
end
end K51
set_option maxHeartbeats 4000000
set_option linter.all false
set_option maxRecDepth 100000
namespace K51
/-! ### how many nodes there are -/
structure NdOk (r : Row) (hyp : Int) (x : Nd) : Prop where
  g : Good r hyp x
  n0 : 0 ≤ x.n
  n1 : x.n ≤ x.p + 1
  c0 : 0 ≤ x.c
  c1 : x.c ≤ 3
theorem clsBy_bd (b r : Int) : 0 ≤ clsBy b r ∧ clsBy b r ≤ 3 := by
  unfold clsBy
  split
  · omega
  · split
    · omega
    · split <;> omega
theorem NdOk.out {r : Row} {ru : Ru} {wr : Bool} {x y : Nd} {d : Cost} (h : NdOk r ru.hyp x) (hy : (y, d) ∈ outs r ru wr x) : NdOk r ru.hyp y ∧ x.p < y.p := by
  obtain ⟨a, b, c, e⟩ := outs_good h.g hy
  obtain ⟨hx, i, hi, hs, _⟩ := outs_mem hy
  have ey : y = (step r ru x i).1 := by rw [hs]
  have ec : y.c = clsOf r ru x.p i (x.n + 1) := by rw [ey]; rfl
  have bd := clsBy_bd (badOf r ru x.p i (x.n + 1)) (restOf r ru x.p i (x.n + 1))
  have h0 := h.n0
  have h1 := h.n1
  exact ⟨⟨a, by omega, by omega, by rw [ec]; exact bd.1, by rw [ec]; exact bd.2⟩, b⟩
theorem first_ok {r : Row} {hyp : Int} : NdOk r hyp first := ⟨first_good, by decide, by decide, by decide, by decide⟩
theorem NdOk.pb {r : Row} {hyp : Int} {x : Nd} (h : NdOk r hyp x) : -1 ≤ x.p ∧ (x.p < (r.length : Int) ∨ x.p = -1) := by
  rcases h.g with g | ⟨g1, g2, _⟩
  · exact ⟨by omega, .inr g⟩
  · exact ⟨by omega, .inl g2⟩
def codeN (x : Nd) : Nat := ((x.p + 1).toNat * 13 + x.n.toNat) * 8 + x.c.toNat * 2 + (if x.h = true then 1 else 0)
theorem codeN_lt {r : Row} {hyp : Int} {x : Nd} (h : NdOk r hyp x) (hl : r.length ≤ 12) : codeN x < 1352 := by
  obtain ⟨b1, b2⟩ := h.pb
  have := h.n0
  have := h.n1
  have := h.c0
  have := h.c1
  unfold codeN
  have h1 : (x.p + 1).toNat ≤ 12 := by omega
  have h2 : x.n.toNat ≤ 12 := by omega
  have h3 : x.c.toNat ≤ 3 := by omega
  split <;> omega
theorem codeN_inj {r : Row} {hyp : Int} {x y : Nd} (hx : NdOk r hyp x) (hy : NdOk r hyp y) (hl : r.length ≤ 12) (e : codeN x = codeN y) : x = y := by
  obtain ⟨b1, b2⟩ := hx.pb
  obtain ⟨b3, b4⟩ := hy.pb
  have := hx.n0
  have := hx.n1
  have := hx.c0
  have := hx.c1
  have := hy.n0
  have := hy.n1
  have := hy.c0
  have := hy.c1
  obtain ⟨p, n, c, h⟩ := x
  obtain ⟨p', n', c', h'⟩ := y
  dsimp only at *
  unfold codeN at e
  dsimp only at e
  have h2 : n.toNat ≤ 12 := by omega
  have h3 : c.toNat ≤ 3 := by omega
  have h4 : n'.toNat ≤ 12 := by omega
  have h5 : c'.toNat ≤ 3 := by omega
  have hh : h = h' := by
    cases h <;> cases h' <;> first | rfl | (simp only [if_true, Bool.false_eq_true, if_false] at e; omega)
  subst hh
  have e2 : ((p + 1).toNat * 13 + n.toNat) * 8 + c.toNat * 2 = ((p' + 1).toNat * 13 + n'.toNat) * 8 + c'.toNat * 2 := by omega
  have ec : c = c' := by omega
  have en : n = n' := by omega
  have ep : p = p' := by omega
  rw [ec, en, ep]
theorem nodup_bound : ∀ (n : Nat) (l : List Nat), l.Nodup → (∀ x ∈ l, x < n) → l.length ≤ n
  | 0, l, _, h => by
    cases l with
    | nil => exact Nat.le_refl _
    | cons x xs => exact absurd (h x List.mem_cons_self) (Nat.not_lt_zero _)
  | n + 1, l, nd, h => by
    have h1 := nodup_bound n (l.erase n) (nd.erase n) fun x hx => by
      have h2 := h x (List.mem_of_mem_erase hx)
      have h3 : x ≠ n := (nd.mem_erase_iff.mp hx).1
      omega
    have h4 : l.length ≤ (l.erase n).length + 1 := by
      by_cases hm : n ∈ l
      · rw [List.length_erase_of_mem hm]
        omega
      · rw [List.erase_of_not_mem hm]
        omega
    omega
structure FdOk (r : Row) (hyp : Int) (ks : List Nd) : Prop where
  nd : ks.Nodup
  ok : ∀ x ∈ ks, NdOk r hyp x
theorem codes_nodup {r : Row} {hyp : Int} (hl : r.length ≤ 12) : ∀ ks : List Nd, ks.Nodup → (∀ x ∈ ks, NdOk r hyp x) → (ks.map codeN).Nodup
  | [], _, _ => List.nodup_nil
  | x :: ks, nd, h => by
    rw [List.nodup_cons] at nd
    rw [List.map_cons, List.nodup_cons]
    refine ⟨fun hm => ?_, codes_nodup hl ks nd.2 fun y hy => h y (List.mem_cons_of_mem _ hy)⟩
    obtain ⟨y, hy, e⟩ := List.mem_map.mp hm
    have := codeN_inj (h y (List.mem_cons_of_mem _ hy)) (h x List.mem_cons_self) hl e
    rw [this] at hy
    exact nd.1 hy
theorem FdOk.len {r : Row} {hyp : Int} {ks : List Nd} (h : FdOk r hyp ks) (hl : r.length ≤ 12) : ks.length ≤ 1352 := by
  have h1 := nodup_bound 1352 (ks.map codeN) (codes_nodup hl ks h.nd h.ok) ?_
  · rwa [List.length_map] at h1
  · intro x hx
    obtain ⟨y, hy, e⟩ := List.mem_map.mp hx
    rw [← e]
    exact codeN_lt (h.ok y hy) hl
def keysOf (fd : Fd) : List Nd := fd.map (·.1)
def nodesK (ks : List Nd) (q : Int) : List Nd := ks.filter fun x => decide (x.p = q)
theorem nodesAt_eq (fd : Fd) (q : Int) : nodesAt fd q = nodesK (keysOf fd) q := rfl
theorem nodesK_len (ks : List Nd) (q : Int) : (nodesK ks q).length ≤ ks.length := List.length_filter_le _ _
theorem nodesK_mem {ks : List Nd} {q : Int} {x : Nd} (h : x ∈ nodesK ks q) : x ∈ ks ∧ x.p = q := by
  unfold nodesK at h
  rw [List.mem_filter] at h
  exact ⟨h.1, of_decide_eq_true h.2⟩
theorem nodesK_snoc (ks : List Nd) (x : Nd) (q : Int) : nodesK (ks ++ [x]) q = nodesK ks q ++ (if x.p = q then [x] else []) := by
  unfold nodesK
  rw [List.filter_append, List.filter_cons, List.filter_nil]
  congr 1
  by_cases h : x.p = q
  · rw [if_pos h, if_pos (decide_eq_true h)]
  · rw [if_neg h, if_neg (by rw [decide_eq_false h]; exact Bool.false_ne_true)]
theorem fget_isSome {fd : Fd} {x : Nd} : (fget fd x).isSome = true ↔ x ∈ keysOf fd := by
  constructor
  · intro h
    obtain ⟨v, hv⟩ := Option.isSome_iff_exists.mp h
    exact List.mem_map.mpr ⟨_, fget_mem hv, rfl⟩
  · intro h
    rw [← fget_any]
    obtain ⟨e, he, e2⟩ := List.mem_map.mp h
    exact List.any_eq_true.mpr ⟨e, he, decide_eq_true e2⟩
/-- the keys grow by nodes behind P -/
def Grow (P : Int) (ks ks' : List Nd) : Prop := ∃ more, ks' = ks ++ more ∧ ∀ z ∈ more, P < z.p
theorem Grow.refl (P : Int) (ks : List Nd) : Grow P ks ks := ⟨[], by rw [List.append_nil], fun _ h => nomatch h⟩
theorem Grow.trans {P : Int} {a b c : List Nd} (h : Grow P a b) (k : Grow P b c) : Grow P a c := by
  obtain ⟨m, e, hm⟩ := h
  obtain ⟨n, e2, hn⟩ := k
  refine ⟨m ++ n, by rw [e2, e, List.append_assoc], fun z hz => ?_⟩
  rcases List.mem_append.mp hz with h | h
  · exact hm z h
  · exact hn z h
theorem Grow.at {P q : Int} {a b : List Nd} (h : Grow P a b) (hq : q ≤ P) : nodesK b q = nodesK a q := by
  obtain ⟨m, e, hm⟩ := h
  rw [e]
  unfold nodesK
  rw [List.filter_append]
  have : m.filter (fun x => decide (x.p = q)) = [] := by
    rw [List.filter_eq_nil_iff]
    intro z hz h
    have := hm z hz
    have := of_decide_eq_true h
    omega
  rw [this, List.append_nil]
theorem relax_none {x : Nd} {fd : Fd} {y : Nd × Cost} (h : fget fd y.1 = none) : relax x fd y = fput fd y.1 (cadd (costAt fd x) y.2, some x) := by
  unfold relax
  simp only [h]
theorem relax_some {x : Nd} {fd : Fd} {y : Nd × Cost} {v : Cost × Option Nd} (h : fget fd y.1 = some v) : relax x fd y = if clt (cadd (costAt fd x) y.2) v.1 = true then fput fd y.1 (cadd (costAt fd x) y.2, some x) else fd := by
  unfold relax
  simp only [h]
theorem relax_keys (x : Nd) (fd : Fd) (y : Nd × Cost) : keysOf (relax x fd y) = if (fget fd y.1).isSome = true then keysOf fd else keysOf fd ++ [y.1] := by
  cases h : fget fd y.1 with
  | none =>
    rw [relax_none h, keysOf, fput_keys, h]
    rfl
  | some v =>
    rw [relax_some h, Option.isSome_some, if_pos rfl]
    split
    · rw [keysOf, fput_keys, h]
      rfl
    · rfl
theorem relax_grow {r : Row} {hyp : Int} {x : Nd} {fd : Fd} {y : Nd × Cost} (hp : x.p < y.1.p) : Grow x.p (keysOf fd) (keysOf (relax x fd y)) := by
  rw [relax_keys]
  split
  · exact Grow.refl _ _
  · refine ⟨[y.1], rfl, fun z hz => ?_⟩
    have e : z = y.1 := by simpa using hz
    rw [e]
    exact hp
theorem relax_fdok {r : Row} {hyp : Int} {x : Nd} {fd : Fd} {y : Nd × Cost} (h : FdOk r hyp (keysOf fd)) (hy : NdOk r hyp y.1) : FdOk r hyp (keysOf (relax x fd y)) := by
  rw [relax_keys]
  split
  · exact h
  · rename_i hn
    refine ⟨?_, fun z hz => ?_⟩
    · rw [List.nodup_append]
      refine ⟨h.nd, by simp, fun a ha b hb => ?_⟩
      have e : b = y.1 := by simpa using hb
      rw [e]
      intro e2
      rw [e2] at ha
      exact hn (fget_isSome.mpr ha)
    · rcases List.mem_append.mp hz with hz | hz
      · exact h.ok z hz
      · have e : z = y.1 := by simpa using hz
        rw [e]
        exact hy
end K51
set_option Elab.async false
set_option linter.all false
set_option maxRecDepth 100000
set_option maxHeartbeats 4000000
namespace K51
open PySem PySem.Spec PyProof.Rows L2 Evl
theorem _root_.L2.Room.u1 {k : Nat} {A : Around} (r : Room k A) : A.units + 1 < cLine := by
  have := r.units
  omega
/-! ### the nodes and what is found, in the heap -/
/-- tuples stay -/
def ExT (H H' : Hp) : Prop := ∀ a xs, H a = some (.tup xs) → H' a = some (.tup xs)
theorem ExT.of {H H' : Hp} (e : Ex H H') : ExT H H' := fun a xs h => e a _ h
theorem ExT.trans {H H1 H2 : Hp} (a : ExT H H1) (b : ExT H1 H2) : ExT H H2 := fun c o h => b c o (a c o h)
theorem ExT.upd {H : Hp} {l : Addr} {o o' : HO} (h : H l = some o) (n : ∀ xs, o ≠ .tup xs) : ExT H (upd H l o') := fun a xs e => by
  have ne : a ≠ l := fun z => by
    rw [z, h] at e
    exact n xs (Option.some.inj e)
  rw [upd_ne ne]
  exact e
theorem TupAt.monoT {H H' : Hp} {v : V} {xs : List V} (e : ExT H H') (h : TupAt H v xs) : TupAt H' v xs := by
  obtain ⟨a, h1, h2⟩ := h
  exact ⟨a, h1, e _ _ h2⟩
section
variable {aF : Addr}
theorem NdAt.monoT {H H' : Hp} {v : V} {x : Nd} (e : ExT H H') (h : NdAt aF H v x) : NdAt aF H' v x := h.imp (fun h => h.monoT e) id
def OptR (aF : Addr) (H : Hp) (v : V) : Option Nd → Prop
  | none => v = .non
  | some x => NdAt aF H v x
theorem OptR.monoT {H H' : Hp} {v : V} {o : Option Nd} (e : ExT H H') (h : OptR aF H v o) : OptR aF H' v o := by
  cases o with
  | none => exact h
  | some x => exact NdAt.monoT e h
/-- an entry: its cost, the node before -/
def EntR (aF : Addr) (H : Hp) (v : V) (y : Cost × Option Nd) : Prop := ∃ cv ov, TupAt H v [cv, ov] ∧ TupAt H cv (costV y.1) ∧ OptR aF H ov y.2
theorem EntR.monoT {H H' : Hp} {v : V} {y : Cost × Option Nd} (e : ExT H H') (h : EntR aF H v y) : EntR aF H' v y := by
  obtain ⟨cv, ov, h1, h2, h3⟩ := h
  exact ⟨cv, ov, h1.monoT e, h2.monoT e, h3.monoT e⟩
abbrev FdE (aF : Addr) (H : Hp) (e : Nd × Addr × V) (f : Nd × Cost × Option Nd) : Prop := e.1 = f.1 ∧ NdAt aF H (.ref e.2.1) e.1 ∧ EntR aF H e.2.2 f.2
abbrev FdR (aF : Addr) (H : Hp) : Es → Fd → Prop := Paired (FdE aF H)
theorem FdR.monoT {H H' : Hp} {es : Es} {fd : Fd} (e : ExT H H') (h : FdR aF H es fd) : FdR aF H' es fd := Paired.mapP h fun _ _ q => ⟨q.1, q.2.1.monoT e, q.2.2.monoT e⟩
theorem FdR.len {H : Hp} {es : Es} {fd : Fd} (h : FdR aF H es fd) : es.length = fd.length := paired_len h
theorem FdR.keys {K : PySem.W.Frag} (F : KFst K aF) {H : Hp} : ∀ {es : Es} {fd : Fd}, FdR aF H es fd → KeysAt K H es
  | _, _, .nil => fun _ h => nomatch h
  | _, _, .cons q t => fun e he => by
    rcases List.mem_cons.mp he with h | h
    · rw [h]
      obtain ⟨a, e1, e2⟩ := q.2.1.sq F
      cases e1
      exact e2
    · exact FdR.keys F t e h
theorem FdR.get {H : Hp} (x : Nd) : ∀ {es : Es} {fd : Fd}, FdR aF H es fd → (esGet es x = none ∧ fget fd x = none) ∨ ∃ v y, esGet es x = some v ∧ fget fd x = some y ∧ EntR aF H v y
  | _, _, .nil => .inl ⟨rfl, rfl⟩
  | e :: es, f :: fd, .cons q t => by
    by_cases h : e.1 = x
    · exact .inr ⟨_, _, esGet_pos h, fget_pos (q.1.symm.trans h), q.2.2⟩
    · rw [esGet_neg h, fget_neg (fun z => h (q.1.trans z))]
      exact FdR.get x t
theorem FdR.put {H : Hp} {es : Es} {fd : Fd} (h : FdR aF H es fd) (x : Nd) {b : Addr} {v : V} {y : Cost × Option Nd} (hb : NdAt aF H (.ref b) x) (hv : EntR aF H v y) : FdR aF H (esPut es x b v) (fput fd x y) := by
  have e : (es.any fun e => decide (e.1 = x)) = (fd.any fun e => decide (e.1 = x)) := by
    rw [esGet_any, fget_any]
    rcases h.get x with ⟨h1, h2⟩ | ⟨v, y, h1, h2, _⟩ <;> rw [h1, h2] <;> rfl
  unfold esPut fput
  rw [e]
  by_cases q : (fd.any fun e => decide (e.1 = x)) = true
  · rw [if_pos q, if_pos q]
    clear e q
    induction h with
    | nil => exact .nil
    | @cons e f es fd q t ih =>
      rw [List.map_cons, List.map_cons]
      refine .cons ?_ ih
      by_cases z : e.1 = x
      · rw [if_pos z, if_pos (q.1.symm.trans z)]
        exact ⟨q.1, q.2.1, hv⟩
      · rw [if_neg z, if_neg (fun w => z (q.1.trans w))]
        exact q
  · rw [if_neg q, if_neg q]
    exact PySem.Paired.snoc h ⟨rfl, hb, hv⟩
/-- a list of nodes -/
abbrev NodesR (aF : Addr) (H : Hp) : List V → List Nd → Prop := Paired fun v x => NdAt aF H v x
theorem NodesR.monoT {H H' : Hp} {acc : List V} {xs : List Nd} (e : ExT H H') (h : NodesR aF H acc xs) : NodesR aF H' acc xs := Paired.mapP h fun _ _ q => q.monoT e
theorem TupAt.inj {H : Hp} {v : V} {xs ys : List V} (h : TupAt H v xs) (k : TupAt H v ys) : xs = ys := by
  obtain ⟨a, rfl, h1⟩ := h
  obtain ⟨b, e, h2⟩ := k
  cases e
  rw [h1] at h2
  injection h2 with h2
  injection h2
/-- what holds by place: H0 is the heap in which the lists were not -/
structure BpR (aF : Addr) (H0 H : Hp) (kvs : List (Key × V)) (ks : List Nd) : Prop where
  no : ∀ q : Int, nodesK ks q = [] → valV kvs (.inl q) = none
  yes : ∀ q : Int, nodesK ks q ≠ [] → ∃ l acc, valV kvs (.inl q) = some (.ref l) ∧ H0 l = none ∧ H l = some (.lst acc) ∧ NodesR aF H acc (nodesK ks q)
  inj : ∀ (q q' : Int) (l : Addr), valV kvs (.inl q) = some (.ref l) → valV kvs (.inl q') = some (.ref l) → q = q'
  len : kvs.length ≤ ks.length
theorem BpR.mono {H0 H H' : Hp} {kvs : List (Key × V)} {ks : List Nd} (e : Ex H H') (h : BpR aF H0 H kvs ks) : BpR aF H0 H' kvs ks :=
  ⟨h.no, fun q hq => by
    obtain ⟨l, acc, h1, h2, h3, h4⟩ := h.yes q hq
    exact ⟨l, acc, h1, h2, e _ _ h3, h4.monoT (.of e)⟩, h.inj, h.len⟩
theorem BpR.snoc {H0 H H' : Hp} {kvs kvs' : List (Key × V)} {ks : List Nd} {z : Nd} {zb l : Addr} {acc : List V} (h : BpR aF H0 H kvs ks) (ht : ExT H H') (hz : NdAt aF H' (.ref zb) z) (hl0 : H0 l = none) (hl : H' l = some (.lst (acc ++ [.ref zb]))) (hacc : NodesR aF H acc (nodesK ks z.p))
    (hv : valV kvs' (.inl z.p) = some (.ref l)) (hvo : ∀ q, q ≠ z.p → valV kvs' (.inl q) = valV kvs (.inl q)) (hk : ∀ q l' acc', q ≠ z.p → valV kvs (.inl q) = some (.ref l') → H l' = some (.lst acc') → l' ≠ l ∧ H' l' = some (.lst acc')) (hlen : kvs'.length ≤ ks.length + 1) : BpR aF H0 H' kvs' (ks ++ [z]) := by
  have apart : ∀ q l', q ≠ z.p → valV kvs (.inl q) = some (.ref l') → l' ≠ l := fun q l' hq hv' => by
    have hne : nodesK ks q ≠ [] := fun e => by
      rw [h.no q e] at hv'
      cases hv'
    obtain ⟨l2, acc', h1, _, h3, _⟩ := h.yes q hne
    rw [hv'] at h1
    cases h1
    exact (hk q l' acc' hq hv' h3).1
  refine ⟨fun q hq => ?_, fun q hq => ?_, fun q q' m h1 h2 => ?_, by rw [List.length_append]; exact hlen⟩
  · rw [nodesK_snoc] at hq
    by_cases e : z.p = q
    · rw [if_pos e] at hq
      simp at hq
    · rw [if_neg e, List.append_nil] at hq
      rw [hvo q (Ne.symm e)]
      exact h.no q hq
  · rw [nodesK_snoc] at hq ⊢
    by_cases e : z.p = q
    · rw [if_pos e]
      subst e
      exact ⟨l, _, hv, hl0, hl, PySem.Paired.snoc (hacc.monoT ht) hz⟩
    · rw [if_neg e, List.append_nil] at hq ⊢
      obtain ⟨l', acc', h1, h2, h3, h4⟩ := h.yes q hq
      exact ⟨l', acc', by rw [hvo q (Ne.symm e)]; exact h1, h2, (hk q l' acc' (Ne.symm e) h1 h3).2, h4.monoT ht⟩
  · by_cases e : q = z.p
    · by_cases e' : q' = z.p
      · rw [e, e']
      · rw [e, hv] at h1
        cases h1
        rw [hvo q' e'] at h2
        exact absurd rfl (apart q' _ e' h2)
    · by_cases e' : q' = z.p
      · rw [e', hv] at h2
        cases h2
        rw [hvo q e] at h1
        exact absurd rfl (apart q _ e h1)
      · rw [hvo q e] at h1
        rw [hvo q' e'] at h2
        exact h.inj q q' m h1 h2
/-- the state of the search -/
structure NS (P : Program) (w : World) (aF : Addr) (r : Row) (hyp : Int) (H0 H : Hp) (f b : Addr) (fd : Fd) (ks : List Nd) : Prop where
  ex : Ex H0 H
  f0 : H0 f = none
  b0 : H0 b = none
  hf : ∃ es, H f = some (FdO P w f es) ∧ FdR aF H es fd
  hb : ∃ kvs, H b = some (.dK kvs) ∧ BpR aF H0 H kvs ks
  ok : FdOk r hyp ks
theorem NS.mono {P : Program} {w : World} {r : Row} {hyp : Int} {H0 H H' : Hp} {f b : Addr} {fd : Fd} {ks : List Nd} (e : Ex H H') (h : NS P w aF r hyp H0 H f b fd ks) : NS P w aF r hyp H0 H' f b fd ks := by
  obtain ⟨es, h1, h2⟩ := h.hf
  obtain ⟨kvs, h3, h4⟩ := h.hb
  exact ⟨h.ex.trans e, h.f0, h.b0, ⟨es, e _ _ h1, h2.monoT (.of e)⟩, ⟨kvs, e _ _ h3, h4.mono e⟩, h.ok⟩
/-- a list whose first item is a pair -/
def Hd (H : Hp) (acc : List V) : Prop := ∃ v rest c d, acc = v :: rest ∧ TupAt H v [c, d]
theorem Hd.mono {H H' : Hp} {acc : List V} (e : Ex H H') (h : Hd H acc) : Hd H' acc := by
  obtain ⟨v, rest, c, d, h1, h2⟩ := h
  exact ⟨v, rest, c, d, h1, h2.mono e⟩
/-- l holds the nodes of the place q -/
def AtPl (H : Hp) (b : Addr) (q : Int) (l : Addr) (acc : List V) : Prop := (∃ kvs, H b = some (.dK kvs) ∧ valV kvs (.inl q) = some (.ref l)) ∧ H l = some (.lst acc)
theorem AtPl.mono {H H' : Hp} {b l : Addr} {q : Int} {acc : List V} (e : Ex H H') (h : AtPl H b q l acc) : AtPl H' b q l acc := by
  obtain ⟨⟨kvs, h1, h2⟩, h3⟩ := h
  exact ⟨⟨kvs, e _ _ h1, h2⟩, e _ _ h3⟩
structure KeepL (b : Addr) (q : Int) (H H' : Hp) : Prop where
  pl : ∀ q' l acc, q' ≠ q → AtPl H b q' l acc → AtPl H' b q' l acc
  st : ∀ l acc, H l = some (.lst acc) → Hd H acc → H' l = some (.lst acc)
theorem hd_steps {H : Hp} {acc : List V} {ys : List (Nd × Cost)} (h : Paired (StepR H) acc ys) (n : ys ≠ []) : Hd H acc := by
  cases h with
  | nil => exact absurd rfl n
  | @cons v y _ _ h1 t =>
    obtain ⟨nv, cv, h1, _, _⟩ := h1
    exact ⟨v, _, _, _, rfl, h1⟩
theorem not_hd {H : Hp} {acc : List V} {xs : List Nd} (h : NodesR aF H acc xs) (hx : ∀ x ∈ xs, 0 ≤ x.p) (hd : Hd H acc) : False := by
  obtain ⟨v, rest, c, d, rfl, h2⟩ := hd
  cases h with
  | @cons _ x _ _ h1 t =>
    rcases h1 with h1 | ⟨_, h1⟩
    · exact nomatch h1.inj h2
    · have := hx x List.mem_cons_self
      rw [h1] at this
      exact absurd this (by decide)
theorem fdok_snoc {r : Row} {hyp : Int} {ks : List Nd} {z : Nd} (h : FdOk r hyp ks) (hz : NdOk r hyp z) (hn : z ∉ ks) : FdOk r hyp (ks ++ [z]) := by
  refine ⟨?_, fun y hy => ?_⟩
  · rw [List.nodup_append]
    refine ⟨h.nd, by simp, fun a ha b hb => ?_⟩
    have e : b = z := by simpa using hb
    rw [e]
    intro e2
    rw [e2] at ha
    exact hn ha
  · rcases List.mem_append.mp hy with hy | hy
    · exact h.ok y hy
    · have e : y = z := by simpa using hy
      rw [e]
      exact hz
end
section
variable {P : Program} {w : World} {aF : Addr} {r : Row} {hyp : Int} {H0 H : Hp} {f b zb : Addr} {fd : Fd} {ks : List Nd} {z : Nd}
theorem nodesK_all {ks : List Nd} {q : Int} : ∀ x ∈ nodesK ks q, x.p = q := fun x hx => (nodesK_mem hx).2
/-- a new node's place is known already -/
theorem NS.old (s : NS P w aF r hyp H0 H f b fd ks) (hz : NdOk r hyp z) (hz0 : 0 ≤ z.p) (hn : z ∉ ks) (hq : nodesK ks z.p ≠ []) : ∃ kvs l acc, H b = some (.dK kvs) ∧ kvs.length ≤ ks.length ∧ valV kvs (.inl z.p) = some (.ref l) ∧ H l = some (.lst acc) ∧ acc.length ≤ ks.length ∧
    ∀ H', Ex H H' → H' zb = some (.tup (nodeV z)) → NS P w aF r hyp H0 (upd H' l (.lst (acc ++ [.ref zb]))) f b fd (ks ++ [z]) ∧ KeepL b z.p H (upd H' l (.lst (acc ++ [.ref zb]))) ∧ ExT H (upd H' l (.lst (acc ++ [.ref zb]))) := by
  obtain ⟨kvs, h1, h2⟩ := s.hb
  obtain ⟨l, acc, h3, h4, h5, h6⟩ := h2.yes z.p hq
  refine ⟨kvs, l, acc, h1, h2.len, h3, h5, ?_, fun H' e hzb => ?_⟩
  · rw [paired_len h6]
    exact nodesK_len _ _
  have h5' := e _ _ h5
  have et : ExT H' (upd H' l (.lst (acc ++ [.ref zb]))) := .upd h5' fun _ h => nomatch h
  have et0 : ExT H (upd H' l (.lst (acc ++ [.ref zb]))) := (ExT.of e).trans et
  obtain ⟨es, hf1, hf2⟩ := s.hf
  have bl : b ≠ l := ne_of (e _ _ h1) h5' fun h => nomatch h
  have fl : f ≠ l := ne_of (e _ _ hf1) h5' fun h => nomatch h
  have hb' : upd H' l (.lst (acc ++ [.ref zb])) b = some (.dK kvs) := by rw [upd_ne bl]; exact e _ _ h1
  have apart : ∀ q l', q ≠ z.p → valV kvs (.inl q) = some (.ref l') → l' ≠ l := fun q l' hq hv' ee => by
    rw [ee] at hv'
    exact hq (h2.inj q z.p l hv' h3)
  refine ⟨⟨Ex.mut (s.ex.trans e) h4, s.f0, s.b0, ⟨es, by rw [upd_ne fl]; exact e _ _ hf1, hf2.monoT et0⟩, ⟨kvs, hb', ?_⟩, fdok_snoc s.ok hz hn⟩, ⟨fun q' l' acc' hq' hpl => ?_, fun l' acc' hl' hd => ?_⟩, et0⟩
  · refine h2.snoc et0 (.inl ⟨zb, rfl, et _ _ hzb⟩) h4 upd_same h6 h3 (fun _ _ => rfl) (fun q l' acc' hne hv' hl' => ?_) (Nat.le_succ_of_le h2.len)
    have := apart q l' hne hv'
    exact ⟨this, by rw [upd_ne this]; exact e _ _ hl'⟩
  · obtain ⟨⟨kvs', g1, g2⟩, g3⟩ := hpl
    rw [h1] at g1
    cases g1
    exact ⟨⟨kvs, hb', g2⟩, by rw [upd_ne (apart q' l' hq' g2)]; exact e _ _ g3⟩
  · have : l' ≠ l := fun ee => by
      rw [ee, h5] at hl'
      cases hl'
      exact not_hd h6 (fun x hx => by rw [nodesK_all x hx]; exact hz0) hd
    rw [upd_ne this]
    exact e _ _ hl'
/-- .. is new -/
theorem NS.new (s : NS P w aF r hyp H0 H f b fd ks) (hz : NdOk r hyp z) (hn : z ∉ ks) (hq : nodesK ks z.p = []) : ∃ kvs, H b = some (.dK kvs) ∧ kvs.length ≤ ks.length ∧ valV kvs (.inl z.p) = none ∧
    ∀ H' p H3, Ex H H' → H' p = none → Ex (upd (upd H' p (.lst [])) b (.dK (putK kvs (.inl z.p) (.ref p)))) H3 → H3 zb = some (.tup (nodeV z)) → H3 p = some (.lst []) ∧ NS P w aF r hyp H0 (upd H3 p (.lst ([] ++ [.ref zb]))) f b fd (ks ++ [z]) ∧ KeepL b z.p H (upd H3 p (.lst ([] ++ [.ref zb]))) ∧ ExT H (upd H3 p (.lst ([] ++ [.ref zb]))) := by
  obtain ⟨kvs, h1, h2⟩ := s.hb
  refine ⟨kvs, h1, h2.len, h2.no _ hq, fun H' p H3 e hp e3 hzb => ?_⟩
  have hpn : H p = none := fresh_back e hp
  have hp0 : H0 p = none := fresh_back s.ex hpn
  have bp : b ≠ p := fun ee => by
    rw [ee, hpn] at h1
    cases h1
  have hp3 : H3 p = some (.lst []) := e3 _ _ (by rw [upd_ne (Ne.symm bp)]; exact upd_same)
  have hb3 : H3 b = some (.dK (putK kvs (.inl z.p) (.ref p))) := e3 _ _ upd_same
  have hb4 : upd H3 p (.lst ([] ++ [.ref zb])) b = some (.dK (putK kvs (.inl z.p) (.ref p))) := by rw [upd_ne bp]; exact hb3
  have up : ∀ a o, H a = some o → a ≠ b → upd H3 p (.lst ([] ++ [.ref zb])) a = some o := fun a o ha hne => by
    have hap : a ≠ p := fun ee => by
      rw [ee, hpn] at ha
      cases ha
    rw [upd_ne hap]
    exact e3 _ _ (by rw [upd_ne hne, upd_ne hap]; exact e _ _ ha)
  have et : ExT H (upd H3 p (.lst ([] ++ [.ref zb]))) := fun a xs ha => up a _ ha (fun ee => by rw [ee, h1] at ha; cases ha)
  obtain ⟨es, hf1, hf2⟩ := s.hf
  have fb : f ≠ b := ne_of hf1 h1 fun h => nomatch h
  have zp : zb ≠ p := ne_of hzb hp3 fun h => nomatch h
  have hvo : ∀ q, q ≠ z.p → valV (putK kvs (.inl z.p) (.ref p)) (.inl q) = valV kvs (.inl q) := fun q hne => by rw [valV_put, if_neg (fun h => hne (Sum.inl.inj h))]
  refine ⟨hp3, ⟨fun a o ha => up a o (s.ex _ _ ha) (fun ee => by rw [ee, s.b0] at ha; cases ha), s.f0, s.b0, ⟨es, up _ _ hf1 fb, hf2.monoT et⟩, ⟨_, hb4, ?_⟩, fdok_snoc s.ok hz hn⟩, ⟨fun q' l' acc' hq' hpl => ?_, fun l' acc' hl' hd => up _ _ hl' (ne_of hl' h1 fun h => nomatch h)⟩, et⟩
  · refine h2.snoc et (.inl ⟨zb, rfl, by rw [upd_ne zp]; exact hzb⟩) hp0 upd_same (by rw [hq]; exact .nil) (by rw [valV_put, if_pos rfl]) hvo (fun q l' acc' hne _ hl' => ⟨ne_of_none hl' hpn, up _ _ hl' (ne_of hl' h1 (fun h => nomatch h))⟩) (Nat.le_trans (length_putK _ _ _) (Nat.succ_le_succ h2.len))
  · obtain ⟨⟨kvs', g1, g2⟩, g3⟩ := hpl
    rw [h1] at g1
    cases g1
    exact ⟨⟨_, hb4, by rw [hvo q' hq']; exact g2⟩, up _ _ g3 (ne_of g3 h1 fun h => nomatch h)⟩
/-- found[z] = (cost, x) -/
theorem NS.put (s : NS P w aF r hyp H0 H f b fd ks) {v : V} {y : Cost × Option Nd} (hzb : NdAt aF H (.ref zb) z) (hv : EntR aF H v y) : ∃ es, H f = some (FdO P w f es) ∧ FdR aF H es fd ∧ NS P w aF r hyp H0 (upd H f (FdO P w f (esPut es z zb v))) f b (fput fd z y) ks ∧ (∀ l o, H l = some o → l ≠ f → upd H f (FdO P w f (esPut es z zb v)) l = some o) ∧ ExT H (upd H f (FdO P w f (esPut es z zb v))) := by
  obtain ⟨es, hf1, hf2⟩ := s.hf
  obtain ⟨kvs, h1, h2⟩ := s.hb
  have et : ExT H (upd H f (FdO P w f (esPut es z zb v))) := .upd hf1 fun _ h => nomatch h
  have keep : ∀ l o, H l = some o → l ≠ f → upd H f (FdO P w f (esPut es z zb v)) l = some o := fun l o h n => by
    rw [upd_ne n]
    exact h
  refine ⟨es, hf1, hf2, ⟨Ex.mut s.ex s.f0, s.f0, s.b0, ⟨_, upd_same, (hf2.put z hzb hv).monoT et⟩, ⟨kvs, keep _ _ h1 (ne_of h1 hf1 fun h => nomatch h), h2.no, fun q hq => ?_, h2.inj, h2.len⟩, s.ok⟩, keep, et⟩
  obtain ⟨l, acc, h3, h4, h5, h6⟩ := h2.yes q hq
  exact ⟨l, acc, h3, h4, keep _ _ h5 (ne_of h5 hf1 fun h => nomatch h), h6.monoT et⟩
end
section
variable {P : Program} {w : World} {K : PySem.W.Frag} {σ : L2.St} {H : Hp} {ta tb te tl : TE} {v : V} {D : Ends} {tz tu : TS} {g : TG}
theorem KeysAt.mono {K : PySem.W.Frag} {H H' : Hp} {es : Es} (e : Ex H H') (h : KeysAt K H es) : KeysAt K H' es := fun x hx => ex_t e (h x hx)
theorem rv_fdget {a b : Addr} {es : Es} {nd : Nd} (hf : H a = some (FdO P w a es)) (hk : KeysAt K H es) (hb : SqT K H b (nodeV nd)) (hv : esGet es nd = some v) : RV (rFdGet P w K) (.ref a) (.ref b) H v :=
  rv_val fun H1 e Q q => ⟨a, es, nd, b, v, rfl, ⟨.inl (e _ _ hf), hk.mono e⟩, rfl, ex_t e hb, hv, q⟩
theorem rv_fdnotin {a b : Addr} {es : Es} {nd : Nd} (hf : H a = some (FdO P w a es)) (hk : KeysAt K H es) (hb : SqT K H b (nodeV nd)) : RV (rFdNotIn P w K) (.ref b) (.ref a) H (.bl (!(esGet es nd).isSome)) :=
  rv_val fun H1 e Q q => ⟨a, es, nd, b, rfl, ⟨.inl (e _ _ hf), hk.mono e⟩, rfl, ex_t e hb, q⟩
theorem rv_ltT {a b : Addr} {ns ms : List Int} (ha : H a = some (.tup (ns.map V.int))) (hb : H b = some (.tup (ms.map V.int))) : RV (rLtT K) (.ref a) (.ref b) H (.bl (lexLt ns ms)) :=
  rv_val fun H1 e Q q => ⟨a, b, ns, ms, rfl, rfl, st_of (e _ _ ha), st_of (e _ _ hb), by
    have : HT.lexLt ns ms = lexLt ns ms := by
      clear ha hb q
      induction ns generalizing ms with
      | nil => cases ms <;> rfl
      | cons x xs ih =>
        cases ms with
        | nil => rfl
        | cons y ys =>
          unfold HT.lexLt lexLt
          rw [ih]
    rw [this]
    exact q⟩
/-- over a list that is told by a word -/
theorem s_forRL {R : V → Hp → Prop} (h : EvR tl σ H R) (k : ∀ v H1, Ex H H1 → R v H1 → ∃ a xs, v = .ref a ∧ H1 a = some (.lst xs) ∧ ∃ Pv : Nat → L2.St → Hp → Prop, Pv 0 σ H1 ∧ (∀ i σ' H', i ≤ xs.length → Pv i σ' H' → H' a = some (.lst xs)) ∧
    (∀ i x σ' H', xs[i]? = some x → Pv i σ' H' → g x σ' H' fun σ2 H2 => tu { D with nx := Pv (i + 1), ct := Pv (i + 1), bk := D.nx } σ2 H2) ∧ ∀ σ' H', Pv xs.length σ' H' → D.nx σ' H') : tFor (iList K tl) g tu D σ H :=
  h H (Ex.refl H) _ fun v H1 e r => by
    obtain ⟨a, xs, rfl, h1, Pv, h0, hl, hs, hd⟩ := k v H1 e r
    exact ⟨a, rfl, ⟨xs, sq_of h1⟩, for_list Pv h0 (fun i σ' H' hi p => sq_of (hl i σ' H' hi p)) hs hd⟩
theorem q_forRL {R : V → Hp → Prop} (h : EvR tl σ H R) (k : ∀ v H1, Ex H H1 → R v H1 → ∃ a xs, v = .ref a ∧ H1 a = some (.lst xs) ∧ ∃ Pv : Nat → L2.St → Hp → Prop, Pv 0 σ H1 ∧ (∀ i σ' H', i ≤ xs.length → Pv i σ' H' → H' a = some (.lst xs)) ∧
    (∀ i x σ' H', xs[i]? = some x → Pv i σ' H' → g x σ' H' fun σ2 H2 => tu { D with nx := Pv (i + 1), ct := Pv (i + 1), bk := tz D } σ2 H2) ∧ ∀ σ' H', Pv xs.length σ' H' → tz D σ' H') : tSeq (tFor (iList K tl) g tu) tz D σ H :=
  s_forRL (D := { D with nx := tz D }) h k
theorem q_forRT {R : V → Hp → Prop} (h : EvR tl σ H R) (k : ∀ v H1, Ex H H1 → R v H1 → ∃ a xs, v = .ref a ∧ H1 a = some (.tup xs) ∧ ∃ Pv : Nat → L2.St → Hp → Prop, Pv 0 σ H1 ∧ (∀ i σ' H', i ≤ xs.length → Pv i σ' H' → H' a = some (.tup xs)) ∧
    (∀ i x σ' H', xs[i]? = some x → Pv i σ' H' → g x σ' H' fun σ2 H2 => tu { D with nx := Pv (i + 1), ct := Pv (i + 1), bk := tz D } σ2 H2) ∧ ∀ σ' H', Pv xs.length σ' H' → tz D σ' H') : tSeq (tFor (iTup K tl) g tu) tz D σ H :=
  h H (Ex.refl H) _ fun v H1 e r => by
    obtain ⟨a, xs, rfl, h1, Pv, h0, hl, hs, hd⟩ := k v H1 e r
    exact ⟨a, rfl, ⟨xs, st_of h1⟩, for_tup (D := { D with nx := tz D }) Pv h0 (fun i σ' H' hi p => st_of (hl i σ' H' hi p)) hs hd⟩
/-- (x, *xs) -/
theorem er_tupStar {t1 : TE} {x : V} {xs : List V} (h1 : Ev t1 σ H x) (h2 : EvR te σ H (fun v H' => LstAt H' v xs)) (hl : xs.length < 100000) : EvR (tTup (tCons t1 (StX.tStar K te tNil))) σ H (fun v H' => TupAt H' v (x :: xs)) := fun H1 e Q q =>
  h1 H1 e _ fun H2 e2 => h2 H2 (e.trans e2) _ fun v H3 e3 r => by
    obtain ⟨a, rfl, ha⟩ := r
    refine ⟨a, xs, rfl, .inr (sq_of ha), ?_, fun p hp => ?_⟩
    · rw [List.append_nil]
      exact sz_of (by rw [List.length_cons]; omega)
    · rw [List.append_nil]
      exact q _ _ ((e2.trans e3).trans (Ex.new hp)) ⟨p, rfl, upd_same⟩
/-- d.get(y, []) -/
theorem er_dget2 {td ty : TE} {d : Addr} {kvs : List (Key × V)} {k : Key} (h1 : Ev td σ H (.ref d)) (h2 : Ev ty σ H (kV k)) (hd : H d = some (.dK kvs)) : EvR (tDGet2 td ty (tLst tNil)) σ H (fun v H' => (valV kvs k = some v) ∨ (valV kvs k = none ∧ ∃ a, v = .ref a ∧ H' a = some (.lst []))) := fun H1 e Q q =>
  h1 H1 e _ fun H2 e2 => ⟨d, rfl, .inl ⟨kvs, .inl (e2 _ _ (e _ _ hd))⟩, h2 H2 (e.trans e2) _ fun H3 e3 => by
    refine ⟨by show 0 ≤ sizeLine; decide, fun p hp => ⟨valV kvs k, .inl ⟨kvs, k, .inl ?_, rfl, rfl⟩, ?_⟩⟩
    · exact (e2.trans e3).trans (Ex.new hp) _ _ (e _ _ hd)
    · cases hv : valV kvs k with
      | some v => exact q v _ ((e2.trans e3).trans (Ex.new hp)) (.inl hv)
      | none => exact q _ _ ((e2.trans e3).trans (Ex.new hp)) (.inr ⟨hv, p, rfl, upd_same⟩)⟩
end
section
variable {P : Program} {w : World} {K : PySem.W.Frag} {aF : Addr} {σ : L2.St} {H : Hp} {ta : TE} {D : Ends} {r : Row} {hyp : Int} {H0 : Hp} {f b zb tb xa : Addr} {fd : Fd} {ks : List Nd} {z x : Nd} {c : Cost}
theorem ev_lenFd {a : Addr} {es : Es} (ha : Ev ta σ H (.ref a)) (hf : H a = some (FdO P w a es)) (hk : KeysAt K H es) : Ev (tCB (rLenFd P w K) (tCons ta tNil)) σ H (.int (es.length : Int)) := fun H1 e Q q =>
  ha H1 e _ fun H2 e2 => ⟨a, es, rfl, ⟨.inl ((e.trans e2) _ _ hf), hk.mono (e.trans e2)⟩, q H2 e2⟩
/-- by_place.setdefault(z[0], []).append(z) -/
theorem s_setdApp {i j : Nat} (ns : NS P w aF r hyp H0 H f b fd ks) (hi : σ[i]? = some (some (.ref b))) (hj : σ[j]? = some (some (.ref zb))) (hzb : H zb = some (.tup (nodeV z))) (hz : NdOk r hyp z) (hz0 : 0 ≤ z.p) (hn : z ∉ ks) (hl : ks.length ≤ 1352)
    (k : ∀ H', NS P w aF r hyp H0 H' f b fd (ks ++ [z]) → KeepL b z.p H H' → ExT H H' → D.nx σ H') : tDrop (tBM K "list" rAppend (tDSetd (tVar i) (tOp (rIxT K) (tVar j) (tC (.int 0))) (tLst tNil)) (tCons (tVar j) tNil)) D σ H := by
  obtain ⟨kvs, hb, _⟩ := ns.hb
  refine ⟨.ref b, hi, b, rfl, .inl ⟨kvs, .inl hb⟩, (ev_ixT (v := .int z.p) (ev_var hj) ev_c hzb at0) _ (Ex.refl _) _ fun H12 e12 => ⟨by show 0 ≤ sizeLine; decide, fun p hp => ?_⟩⟩
  have ep : Ex H (upd H12 p (.lst [])) := e12.trans (Ex.new hp)
  by_cases hq : nodesK ks z.p = []
  · obtain ⟨kvs', h1, h2, h3, h4⟩ := ns.new hz hn hq
    rw [hb] at h1
    cases h1
    obtain ⟨h5, h6, h7, h8⟩ := h4 H12 p _ e12 hp (Ex.refl _) (by
      rw [upd_ne (ne_of (ep _ _ hzb) (ep _ _ hb) fun h => nomatch h)]
      exact ep _ _ hzb)
    refine ⟨kvs, .inl z.p, ep _ _ hb, rfl, sz_lt (by omega), fun v hv => ?_, fun hv => ⟨.inl ⟨rfl, _, sq_of h5⟩, ⟨_, hj, p, [], .ref zb, rfl, rfl, h5, by show 0 < sizeLine; decide, k _ h6 h7 h8⟩⟩⟩
    rw [h3] at hv
    cases hv
  · obtain ⟨kvs', l, acc, h1, h2, h3, h4, h5, h6⟩ := ns.old (zb := zb) hz hz0 hn hq
    rw [hb] at h1
    cases h1
    obtain ⟨h7, h8, h9⟩ := h6 _ ep (ep _ _ hzb)
    refine ⟨kvs, .inl z.p, ep _ _ hb, rfl, sz_lt (by omega), fun v hv => ?_, fun hv => ?_⟩
    · rw [h3] at hv
      cases hv
      exact ⟨.inl ⟨rfl, _, sq_of (ep _ _ h4)⟩, ⟨_, hj, l, acc, .ref zb, rfl, rfl, ep _ _ h4, sz_lt (by omega), k _ h7 h8 h9⟩⟩
    · rw [h3] at hv
      cases hv
/-- found[z] = (total, x) -/
theorem s_setFd {i j m n : Nat} (F : KFst K aF) (ns : NS P w aF r hyp H0 H f b fd ks) (hi : σ[i]? = some (some (.ref f))) (hj : σ[j]? = some (some (.ref zb))) (hm : σ[m]? = some (some (.ref tb))) (hn : σ[n]? = some (some (.ref xa))) (hzb : H zb = some (.tup (nodeV z))) (htb : H tb = some (.tup (costV c))) (hxa : NdAt aF H (.ref xa) x) (hl : (keysOf fd).length ≤ 1352)
    (k : ∀ H', NS P w aF r hyp H0 H' f b (fput fd z (c, some x)) ks → (∀ l o, H l = some o → l ≠ f → H' l = some o) → ExT H H' → D.nx σ H') : tAsg (tTup (tCons (tVar m) (tCons (tVar n) tNil))) (gSub (tVar i) (tVar j) (rFdSet P w K)) D σ H := by
  refine ⟨_, hm, _, hn, by show 2 ≤ sizeLine; decide, fun p hp => ?_⟩
  have ep : Ex H (upd H p (.tup [.ref tb, .ref xa])) := Ex.new hp
  obtain ⟨es, h1, h2, h3, h4, h5⟩ := (ns.mono ep).put (z := z) (zb := zb) (v := .ref p) (y := (c, some x)) (.inl ⟨zb, rfl, ep _ _ hzb⟩) ⟨_, _, ⟨p, rfl, upd_same⟩, ⟨tb, rfl, ep _ _ htb⟩, hxa.mono ep⟩
  have e1 := FdR.len h2
  have e2 : (keysOf fd).length = fd.length := List.length_map ..
  exact ⟨_, hi, _, hj, f, es, z, zb, rfl, h1, h2.keys F, rfl, st_of (ep _ _ hzb), sz_lt (by omega), k _ h3 (fun l o h n => h4 _ _ (ep _ _ h) n) ((ExT.of ep).trans h5)⟩
end
section
variable {P : Program} {w : World} {K : PySem.W.Frag} {mg : Str → Option Value} {base : Heap} {cG cR cL aF : Addr}
abbrev st_all_nodes : Stmt := top 61
def nm_all_nodes : List Str := ["row", "rules", "wrong", "found", "by_place", "place", "node", "later", "cost", "total"]
theorem sc_all_nodes : FnScope nm_all_nodes ["row", "rules", "wrong"] (defScope st_all_nodes) := ⟨rfl, rfl, rfl, by decide +kernel, rfl, by decide +kernel, by decide +kernel⟩
def sp_all_nodes (P : Program) (w : World) (cG cR aF : Addr) : Sp := spR fun vs H R => ∃ (x : V) (b : Addr) (r : Row) (u : Ru) (wr : Bool), vs = [x, .ref b, .bl wr] ∧ RowAt cG H x r ∧ RulesAt cR H (.ref b) u ∧ Bd r u ∧
  R = fun v H2 => ∃ f es, v = .ref f ∧ H2 f = some (FdO P w f es) ∧ FdR aF H2 es (allNodes r u wr)
theorem ok_all_nodes (T : Tx K mg cG cR cL aF) (KF : KFst K aF) (D : DefAt K mg "all_nodes" "all_nodes" "all_nodes" st_all_nodes) (c_all_places : Cal P w K mg base "all_places" ["row", "rules"] 3 (sp_all_places cG cR))
    (c_steps_from : Cal P w K mg base "steps_from" ["row", "rules", "node", "wrong"] 7 (sp_steps_from cG cR aF)) (c_added_cost : Cal P w K mg base "added_cost" ["one", "other"] 1 sp_added_cost) : Cal P w K mg base "all_nodes" ["row", "rules", "wrong"] 8 (sp_all_nodes P w cG cR aF) := by
  refine cal_of D sc_all_nodes (fun _ _ _ _ _ _ us hl => match us, hl with | [_, _, _], _ => rfl) (fun vs H Q E h => ?_) (fun f cdv A outer s H vs Q E hr h => ?_)
  · obtain ⟨R, ⟨x, b, r, u, wr, rfl, _⟩, _⟩ := h
    rfl
  · obtain ⟨R, ⟨x, b, r, u, wr, rfl, hx, hu, hbd, rfl⟩, k⟩ := h
    refine ⟨_, (pss_cons (ps_par (i := 3) (j := 4) (by rfl) sc_all_nodes.nd rfl rfl (by decide) rfl rfl (pa_cons (pe_fd1P (P := P) (w := w) (K := K) rfl rfl rfl hr.units0 (pe_gr T.g_FIRST_NODE) (pe_tup (pa_cons (pe_tup (pa_cons pe_int (pa_cons pe_int (pa_cons pe_int pa_nil)))) (pa_cons pe_non pa_nil)))) (pa_cons (pe_disp (pps_cons (pe_un un_neg pe_int) (pe_lst (pa_cons (pe_gr T.g_FIRST_NODE) pa_nil)) pps_nil) rfl rfl (by exact fun h => nomatch h) (by decide)) pa_nil)) (by rfl))
      (pss_cons (ps_for PassesOwn.never rfl (pi_tup (pe_tup (pa_cons (pe_un un_neg pe_int) (StX.pa_star (pe_cal c_all_places (hr.mono (by decide)) (pa_cons (pv 0) (pa_cons (pv 1) pa_nil))) pa_nil)))) (pg_name (i := 5) sc_all_nodes.nd rfl (Or.inl rfl)) (pss_cons (ps_for PassesOwn.never rfl (pi_list (pe_dget2 hr.u1 (pv 4) (pv 5) (pe_lst pa_nil) ⟨rfl, rfl, rfl, rfl⟩)) (pg_name (i := 6) sc_all_nodes.nd rfl (Or.inl rfl)) (pss_one (ps_for PassesOwn.never rfl (pi_list (pe_cal c_steps_from (hr.mono (by decide)) (pa_cons (pv 0) (pa_cons (pv 1) (pa_cons (pv 6) (pa_cons (pv 2) pa_nil)))))) (pg_tup rfl (pgs_cons (pg_name (i := 7) sc_all_nodes.nd rfl (Or.inl rfl)) (pgs_cons (pg_name (i := 8) sc_all_nodes.nd rfl (Or.inl rfl)) pgs_nil))) (pss_cons (ps_set (i := 9) sc_all_nodes.nd rfl (Or.inl rfl) (pe_cal c_added_cost (hr.mono (by decide)) (pa_cons (pe_ix ix_tup (pe_fdgetP (P := P) (w := w) (K := K) rfl rfl rfl hr.u1 (pv 3) (pv 6) (fun _ _ => rfl)) pe_int (fun _ _ => rfl)) (pa_cons (pv 8) pa_nil))))
      (pss_cons (ps_if (pt_cmpR (op_fdnotinP (P := P) (w := w) (K := K) rfl rfl rfl hr.u1) (pv 7) (pv 3) rfl) (pss_one (ps_expr (pe_bm PySem.F.plainAttrs_list PySem.F.slot_list_append PySem.F.type_list_append mt_append (pe_dsetd (pv 4) (pe_ix ix_tup (pv 7) pe_int (fun _ _ => rfl)) (pe_lst pa_nil) ⟨rfl, rfl, rfl, rfl⟩) (pa_cons (pv 7) pa_nil)))) pss_nil)
      (pss_one (ps_if (PW.pt (pw_or (pt_cmpR (op_fdnotinP (P := P) (w := w) (K := K) rfl rfl rfl hr.u1) (pv 7) (pv 3) rfl) (pw_or1 (pt_cmpR (op_ltT hr.units0) (pv 9) (pe_ix ix_tup (pe_fdgetP (P := P) (w := w) (K := K) rfl rfl rfl hr.u1 (pv 3) (pv 7) (fun _ _ => rfl)) pe_int (fun _ _ => rfl)) (nomark _))))) (pss_one (ps_asg (pe_tup (pa_cons (pv 9) (pa_cons (pv 6) pa_nil))) (pg_sub (pv 3) (pv 7) (set_fdP (P := P) (w := w) (K := K) rfl rfl rfl hr.u1)))) pss_nil)))))))
      (pss_one (ps_if (pt_cmpR op_gt (pe_callB (call_len_fdP (P := P) (w := w) (K := K) rfl rfl rfl) (by rfl) T.len_ (by decide +kernel) (pa_cons (pv 3) pa_nil)) (pe_gi T.g_MOST_NODES) (nomark _)) (pss_one ps_never) pss_nil))))
      (pss_one (ps_ret (pv 3))))), ?_⟩
    have hp1352 : ∀ fd : Fd, FdOk r u.hyp (keysOf fd) → (keysOf fd).length ≤ 1352 := fun fd h => h.len hbd.len
    refine fun f hf => ⟨by show 3 ≤ sizeLine; decide, fun p1 hp1 => ⟨by show 2 ≤ sizeLine; decide, fun p2 hp2 => ?_⟩⟩
    have x1 : Ex H (upd H f (FdO P w f [])) := Ex.new hf
    have x2 := x1.trans (Ex.new hp1 (o := .tup [.int 0, .int 0, .int 0]))
    have x3 := x2.trans (Ex.new hp2 (o := .tup [.ref p1, .non]))
    refine ⟨aF, first, rfl, .inr KF, ((Ex.new hp1).trans (Ex.new hp2)) _ _ upd_same, fun bp hbp => ev_un ev_c ru_neg _ (Ex.refl _) _ fun H4 e4 => ⟨by show 1 ≤ sizeLine; decide, fun l hl => ⟨?_, [(.inl (-1), .ref l)], rfl, by show 1 ≤ 15; decide, ⟨_, _, rfl, ?_⟩⟩⟩⟩
    · exact (Ex.new hl) _ _ (e4 _ _ upd_same)
    have fp1 : f ≠ p1 := ne_of_none (upd_same (H := H) (o := FdO P w f [])) hp1
    have fp2 : f ≠ p2 := ne_of_none (show upd (upd H f (FdO P w f [])) p1 (.tup [.int 0, .int 0, .int 0]) f = some (FdO P w f []) by rw [upd_ne fp1]; exact upd_same) hp2
    have p12 : p1 ≠ p2 := ne_of_none (upd_same (a := p1)) hp2
    generalize hX : upd (upd (upd (upd H f (FdO P w f [])) p1 (.tup [.int 0, .int 0, .int 0])) p2 (.tup [.ref p1, .non])) f (FdO P w f [(first, aF, .ref p2)]) = X0 at hbp e4
    have X0f : X0 f = some (FdO P w f [(first, aF, .ref p2)]) := by rw [← hX]; exact upd_same
    have X0p2 : X0 p2 = some (.tup [.ref p1, .non]) := by rw [← hX, upd_ne (Ne.symm fp2)]; exact upd_same
    have X0p1 : X0 p1 = some (.tup [.int 0, .int 0, .int 0]) := by rw [← hX, upd_ne (Ne.symm fp1), upd_ne p12]; exact upd_same
    have xX : Ex H X0 := by rw [← hX]; exact Ex.mut x3 hf
    have fbp : f ≠ bp := ne_of_none X0f hbp
    have b4 : H4 bp = some (.dK []) := e4 _ _ upd_same
    have lbp : bp ≠ l := ne_of_none b4 hl
    have x4 : Ex X0 H4 := (Ex.new hbp).trans e4
    have up : ∀ a o, X0 a = some o → upd (upd H4 l (.lst [.ref aF])) bp (.dK (mergeK [] [(.inl (-1), .ref l)])) a = some o := fun a o h => by
      rw [upd_ne (ne_of_none h hbp), upd_ne (ne_of_none (x4 _ _ h) hl)]
      exact x4 _ _ h
    have ns0 : NS P w aF r u.hyp H (upd (upd H4 l (.lst [.ref aF])) bp (.dK (mergeK [] [(.inl (-1), .ref l)]))) f bp begun (keysOf begun) := by
      refine ⟨fun a o h => up a o (xX _ _ h), hf, fresh_back xX hbp, ⟨_, up _ _ X0f, .cons ⟨rfl, .inr ⟨rfl, rfl⟩, .ref p1, .non, ⟨p2, rfl, up _ _ X0p2⟩, ⟨p1, rfl, up _ _ X0p1⟩, rfl⟩ .nil⟩, ⟨_, upd_same, ?_, ?_, ?_, Nat.le_refl _⟩, ⟨List.nodup_cons.mpr ⟨(fun h => nomatch h), List.nodup_nil⟩, fun y hy => ?_⟩⟩
      · intro q hq
        by_cases e : (-1 : Int) = q
        · have : nodesK (keysOf begun) q = [first] := by rw [← e]; rfl
          rw [this] at hq
          cases hq
        · exact valV_neg fun h => e (Sum.inl.inj h)
      · intro q hq
        by_cases e : (-1 : Int) = q
        · have : nodesK (keysOf begun) q = [first] := by rw [← e]; rfl
          rw [this]
          refine ⟨l, [.ref aF], valV_pos (by rw [e]), fresh_back (xX.trans x4) hl, by rw [upd_ne (Ne.symm lbp)]; exact upd_same, .cons (.inr ⟨rfl, rfl⟩) .nil⟩
        · refine absurd ?_ hq
          show List.filter (fun x => decide (x.p = q)) [first] = []
          rw [List.filter_cons, if_neg (by rw [decide_eq_false (show ¬ first.p = q from e)]; exact Bool.false_ne_true), List.filter_nil]
      · have h0 : ∀ (q : Int) (m : Addr), valV (mergeK [] [(.inl (-1), .ref l)]) (.inl q) = some (.ref m) → q = -1 := fun q m h => by
          by_cases e : (-1 : Int) = q
          · exact e.symm
          · have h2 : valV (mergeK [] [((.inl (-1) : Key), V.ref l)]) (.inl q) = none := valV_neg fun h => e (Sum.inl.inj h)
            rw [h2] at h
            cases h
        exact fun q q' m h1 h2 => (h0 q m h1).trans (h0 q' m h2).symm
      · have e : y = first := by simpa [keysOf, begun] using hy
        rw [e]
        exact first_ok
    generalize upd (upd H4 l (.lst [.ref aF])) bp (.dK (mergeK [] [(.inl (-1), .ref l)])) = H5 at ns0
    clear up b4 lbp x4 xX fbp X0p1 X0p2 X0f hbp e4 hX fp1 fp2 p12 x1 x2 x3 hp1 hp2 hl
    refine q_forRT (er_tupStar (xs := natsV (places r u.hyp)) (ev_un ev_c ru_neg) (ev_calR (ea_cons (ev_var rfl) (ea_cons (ev_var rfl) ea_nil)) fun H6 e6 => ⟨_, _, r, u, rfl, hx.mono (ns0.ex.trans e6), hu.mono (ns0.ex.trans e6), by have := hbd.len; omega, rfl⟩) ?_) fun tv H6 e6 htv => ?_
    · unfold natsV places
      rw [List.length_map]
      have h1 := List.length_filter_le (isPlace r u.hyp) (List.range r.length)
      rw [List.length_range] at h1
      have := hbd.len
      omega
    obtain ⟨ta, rfl, hta⟩ := htv
    let ps : List Int := (-1 : Int) :: (places r u.hyp).map (fun (i : Nat) => (i : Int))
    have eps : (V.int (-1) :: natsV (places r u.hyp)) = ps.map V.int := by
      show _ = V.int (-1) :: ((places r u.hyp).map _).map V.int
      rw [List.map_map]
      rfl
    rw [eps] at hta
    refine ⟨ta, ps.map V.int, rfl, hta, fun i σ' H' => ∃ o5 o6 o7 o8 o9, σ' = [some x, some (.ref b), some (.bl wr), some (.ref f), some (.ref bp), o5, o6, o7, o8, o9] ∧ NS P w aF r u.hyp H H' f bp ((ps.take i).foldl (turnPl r u wr) begun) (keysOf ((ps.take i).foldl (turnPl r u wr) begun)) ∧ H' ta = some (.tup (ps.map V.int)), ⟨_, _, _, _, _, rfl, ns0.mono e6, hta⟩, fun i σ' H' _ ⟨_, _, _, _, _, _, _, h⟩ => h, ?_, ?_⟩
    · rintro i y σ' H' hy ⟨o5, o6, o7, o8, o9, rfl, ns, hta'⟩
      rw [List.getElem?_map] at hy
      obtain ⟨q, hq, rfl⟩ := Option.map_eq_some_iff.mp hy
      have ei : (ps.take (i + 1)).foldl (turnPl r u wr) begun = turnPl r u wr ((ps.take i).foldl (turnPl r u wr) begun) q := by
        rw [List.take_succ, hq, List.foldl_append]
        rfl
      generalize (ps.take i).foldl (turnPl r u wr) begun = fd at ns ei
      obtain ⟨kvs, hbp, bpr⟩ := ns.hb
      -- by_place.get(place, [])
      refine q_forRL (er_dget2 (k := .inl q) (ev_var rfl) (ev_var rfl) hbp) fun lv H7 e7 hlv => ?_
      obtain ⟨l, acc, rfl, hl7, hacc, hpl7⟩ : ∃ l acc, lv = .ref l ∧ H7 l = some (.lst acc) ∧ NodesR aF H7 acc (nodesAt fd q) ∧ (nodesAt fd q ≠ [] → AtPl H7 bp q l acc) := by
        rw [nodesAt_eq]
        by_cases hne : nodesK (keysOf fd) q = []
        · rcases hlv with h | ⟨_, a, h1, h2⟩
          · rw [bpr.no q hne] at h
            cases h
          · exact ⟨a, [], h1, h2, by rw [hne]; exact .nil, fun h => absurd hne h⟩
        · obtain ⟨l, acc, h1, _, h3, h4⟩ := bpr.yes q hne
          rcases hlv with h | ⟨h, _⟩
          · rw [h1] at h
            cases h
            exact ⟨l, acc, rfl, e7 _ _ h3, h4.monoT (.of e7), fun _ => ⟨⟨kvs, e7 _ _ hbp, h1⟩, e7 _ _ h3⟩⟩
          · rw [h1] at h
            cases h
      have hlen := paired_len hacc
      refine ⟨l, acc, rfl, hl7, fun j σ' H' => ∃ o6 o7 o8 o9, σ' = [some x, some (.ref b), some (.bl wr), some (.ref f), some (.ref bp), some (.int q), o6, o7, o8, o9] ∧ NS P w aF r u.hyp H H' f bp (((nodesAt fd q).take j).foldl (turnAt r u wr) fd) (keysOf (((nodesAt fd q).take j).foldl (turnAt r u wr) fd)) ∧ H' l = some (.lst acc) ∧ (nodesAt fd q ≠ [] → AtPl H' bp q l acc) ∧ ExT H7 H' ∧ Grow q (keysOf fd) (keysOf (((nodesAt fd q).take j).foldl (turnAt r u wr) fd)), ⟨_, _, _, _, rfl, ns.mono e7, hl7, hpl7, .of (Ex.refl H7), Grow.refl _ _⟩, fun j σ' H' _ ⟨_, _, _, _, _, _, h, _⟩ => h, ?_, ?_⟩
      · rintro j v σ' H' hv ⟨o6, o7, o8, o9, rfl, ns2, hl', hpl', et, gr⟩
        obtain ⟨nd, hnd⟩ : ∃ y, (nodesAt fd q)[j]? = some y := ⟨_, List.getElem?_eq_getElem (by have := (List.getElem?_eq_some_iff.mp hv).1; omega)⟩
        obtain ⟨v', hv', hnx⟩ := paired_get hacc hnd
        rw [hv] at hv'
        cases hv'
        have nsn : (nodesAt fd q) ≠ [] := fun e => by
          rw [e] at hnd
          simp at hnd
        have hpl := hpl' nsn
        have hnx' := hnx.monoT et
        obtain ⟨xa, rfl, hxa'⟩ := hnx'.sq KF
        have ej : ((nodesAt fd q).take (j + 1)).foldl (turnAt r u wr) fd = turnAt r u wr (((nodesAt fd q).take j).foldl (turnAt r u wr) fd) nd := by
          rw [List.take_succ, hnd, List.foldl_append]
          rfl
        generalize ((nodesAt fd q).take j).foldl (turnAt r u wr) fd = fd2 at ns2 gr ej
        obtain ⟨ndk, ndp⟩ := nodesK_mem (List.mem_of_getElem? hnd)
        have nok := ns.ok.ok nd ndk
        have l12 := hbd.len
        have npb := nok.pb
        have nn1 := nok.n1
        refine s_forRL (ev_calR (ea_cons (ev_var rfl) (ea_cons (ev_var rfl) (ea_cons (ev_var rfl) (ea_cons (ev_var rfl) ea_nil)))) fun H8 e8 => ⟨x, .ref xa, b, r, u, nd, wr, rfl, hx.mono (ns2.ex.trans e8), hu.mono (ns2.ex.trans e8), hbd, hnx'.mono e8, nok.g, ⟨nok.n0, by omega⟩, ⟨nok.c0, nok.c1⟩, rfl⟩) fun sv H8 e8 hsv => ?_
        obtain ⟨sa, accS, rfl, hsa, hps⟩ := hsv
        have hslen := paired_len hps
        have fdk : nd ∈ keysOf fd2 := by
          obtain ⟨m, e, _⟩ := gr
          rw [e]
          exact List.mem_append_left _ ndk
        refine ⟨sa, accS, rfl, hsa, fun m σ' H' => ∃ o7 o8 o9, σ' = [some x, some (.ref b), some (.bl wr), some (.ref f), some (.ref bp), some (.int q), some (.ref xa), o7, o8, o9] ∧ NS P w aF r u.hyp H H' f bp (((outs r u wr nd).take m).foldl (relax nd) fd2) (keysOf (((outs r u wr nd).take m).foldl (relax nd) fd2)) ∧ H' sa = some (.lst accS) ∧ AtPl H' bp q l acc ∧ ExT H8 H' ∧ Grow q (keysOf fd2) (keysOf (((outs r u wr nd).take m).foldl (relax nd) fd2)), ⟨_, _, _, rfl, ns2.mono e8, hsa, hpl.mono e8, .of (Ex.refl _), Grow.refl _ _⟩, fun j σ' H' _ ⟨_, _, _, _, _, h, _⟩ => h, ?_, ?_⟩
        · rintro m z σ' H9 hz ⟨o7, o8, o9, rfl, ns3, hsa9, hpl9, et9, gr9⟩
          obtain ⟨y, hy⟩ : ∃ y, (outs r u wr nd)[m]? = some y := ⟨_, List.getElem?_eq_getElem (by have := (List.getElem?_eq_some_iff.mp hz).1; omega)⟩
          obtain ⟨z', hz', hst⟩ := paired_get hps hy
          rw [hz] at hz'
          cases hz'
          obtain ⟨nv, cv, ⟨za, rfl, hza⟩, ⟨zb, rfl, hzb⟩, ⟨ca, rfl, hca⟩⟩ := hst
          have em : ((outs r u wr nd).take (m + 1)).foldl (relax nd) fd2 = relax nd (((outs r u wr nd).take m).foldl (relax nd) fd2) y := by
            rw [List.take_succ, hy, List.foldl_append]
            rfl
          generalize ((outs r u wr nd).take m).foldl (relax nd) fd2 = fd3 at ns3 gr9 em
          have hza := et9 _ _ hza
          have hzb := et9 _ _ hzb
          have hca := et9 _ _ hca
          refine ⟨za, _, rfl, st_of hza, rfl, .ref zb, _, rfl, .ref ca, _, rfl, rfl, ?_⟩
          obtain ⟨yok, ylt⟩ := nok.out (y := y.1) (d := y.2) (List.mem_of_getElem? hy)
          have ndk3 : nd ∈ keysOf fd3 := by
            obtain ⟨mo, e, _⟩ := gr9
            rw [e]
            exact List.mem_append_left _ fdk
          have len3 := hp1352 _ ns3.ok
          have hnx9 : NdAt aF H9 (.ref xa) nd := (hnx'.mono e8).monoT et9
          have hxa9 : SqT K H9 xa (nodeV nd) := by
            obtain ⟨a, e, h⟩ := hnx9.sq KF
            cases e
            exact h
          have ndp' := nok.pb
          have y0 : 0 ≤ y.1.p := by omega
          have ypq : q ≠ y.1.p := by omega
          have hds : Hd H9 accS := hd_steps (Paired.mapP hps fun _ _ ⟨a1, a2, a3, a4, a5⟩ => ⟨a1, a2, a3.monoT et9, a4.monoT et9, a5.monoT et9⟩) (List.ne_nil_of_mem (List.mem_of_getElem? hy))
          obtain ⟨es, hf9, hfr⟩ := ns3.hf
          rcases hfr.get nd with ⟨_, g2⟩ | ⟨v0, y00, g1, g2, cv0, ov0, ⟨e0, rfl, he0⟩, ⟨c0a, rfl, hc0⟩, _⟩
          · have := fget_isSome.mpr ndk3
            rw [g2] at this
            cases this
          have hcost : costAt fd3 nd = y00.1 := by
            unfold costAt
            rw [g2]
          refine q_asgR (R := fun v H' => TupAt H' v (costV (cadd y00.1 y.2))) (ev_calR (ea_cons (ev_ixT (ev_op (ev_var rfl) (ev_var rfl) (rv_fdget hf9 (hfr.keys KF) hxa9 g1)) ev_c he0 at0) (ea_cons (ev_var rfl) ea_nil)) fun Ha ea => ⟨_, _, y00.1, y.2, rfl, ⟨c0a, rfl, ea _ _ hc0⟩, ⟨ca, rfl, ea _ _ hca⟩, rfl⟩) ?_
          rintro tv H10 e10 ⟨tb, rfl, htb⟩
          have ns10 := ns3.mono e10
          have hf10 := e10 _ _ hf9
          have hfr10 := hfr.monoT (.of e10)
          have hzb10 := e10 _ _ hzb
          rcases hfr10.get y.1 with ⟨g3, g4⟩ | ⟨v3, y3, g3, g4, cv3, ov3, ⟨e3, rfl, he3⟩, ⟨c3a, rfl, hc3⟩, _⟩
          · have zn : y.1 ∉ keysOf fd3 := fun h => by
              have := fget_isSome.mpr h
              rw [g4] at this
              cases this
            have er : relax nd fd3 y = fput fd3 y.1 (cadd y00.1 y.2, some nd) := by rw [relax_none g4, hcost]
            have ek : keysOf (relax nd fd3 y) = keysOf fd3 ++ [y.1] := by rw [relax_keys, g4]; rfl
            refine q_when (b := true) (et_is (et_test (ev_op (ev_var rfl) (ev_var rfl) (rv_fdnotin hf10 (hfr10.keys KF) (st_of hzb10)))) (by rw [g3]; rfl)) (fun _ H11 e11 => ?_) (fun h => nomatch h)
            refine s_setdApp (ns10.mono e11) rfl rfl (e11 _ _ hzb10) yok y0 zn len3 fun H12 ns12 kl12 et12 => ?_
            obtain ⟨es12, hf12, hfr12⟩ := ns12.hf
            have g5 : esGet es12 y.1 = none := by
              rcases hfr12.get y.1 with ⟨g5, _⟩ | ⟨_, _, _, g6, _⟩
              · exact g5
              · rw [g4] at g6
                cases g6
            refine s_when (b := true) (et_is (et_or (a := true) (b := true) (et_is (et_test (ev_op (ev_var rfl) (ev_var rfl) (rv_fdnotin hf12 (hfr12.keys KF) (st_of (et12 _ _ (e11 _ _ hzb10)))))) (by rw [g5]; rfl)) (fun h => nomatch h)) rfl) (fun _ H13 e13 => ?_) (fun h => nomatch h)
            have et13 : ExT H9 H13 := (ExT.of e10).trans ((ExT.of e11).trans (et12.trans (.of e13)))
            refine s_setFd (c := cadd y00.1 y.2) (x := nd) KF (ns12.mono e13) rfl rfl rfl rfl (et13 _ _ hzb) (e13 _ _ (et12 _ _ (e11 _ _ htb))) (hnx9.monoT et13) len3 fun H14 ns14 kl14 et14 => ?_
            have fne : ∀ (l : Addr) (o : HO), H13 l = some o → (∀ es, o ≠ FdO P w f es) → l ≠ f := fun l o h n e => by
              rw [e, e13 _ _ hf12] at h
              exact n _ (Option.some.inj h).symm
            have k1 := (kl12.pl q l acc ypq (hpl9.mono (e10.trans e11))).mono e13
            obtain ⟨⟨kvs1, k2, k3⟩, k4⟩ := k1
            have k5 := e13 _ _ (kl12.st _ _ (e11 _ _ (e10 _ _ hsa9)) (hds.mono (e10.trans e11)))
            have keepS : H14 sa = some (.lst accS) := kl14 _ _ k5 (fne _ _ k5 fun _ h => nomatch h)
            have keepP : AtPl H14 bp q l acc := ⟨⟨kvs1, kl14 _ _ k2 (fne _ _ k2 fun _ h => nomatch h), k3⟩, kl14 _ _ k4 (fne _ _ k4 fun _ h => nomatch h)⟩
            exact ⟨_, _, _, rfl, by rw [em, ek, er]; exact ns14, keepS, keepP, et9.trans (et13.trans et14), by rw [em]; exact gr9.trans (by have := relax_grow (r := r) (hyp := u.hyp) (fd := fd3) ylt; rwa [ndp] at this)⟩
          · have er : relax nd fd3 y = if clt (cadd y00.1 y.2) y3.1 = true then fput fd3 y.1 (cadd y00.1 y.2, some nd) else fd3 := by rw [relax_some g4, hcost]
            have ek : keysOf (relax nd fd3 y) = keysOf fd3 := by rw [relax_keys, g4]; rfl
            refine q_when (b := false) (et_is (et_test (ev_op (ev_var rfl) (ev_var rfl) (rv_fdnotin hf10 (hfr10.keys KF) (st_of hzb10)))) (by rw [g3]; rfl)) (fun h => nomatch h) (fun _ H11 e11 => ?_)
            have gr' : Grow q (keysOf fd2) (keysOf (relax nd fd3 y)) := by rw [ek]; exact gr9
            refine s_when (b := clt (cadd y00.1 y.2) y3.1) (et_is (et_or (a := false) (et_is (et_test (ev_op (ev_var rfl) (ev_var rfl) (rv_fdnotin (e11 _ _ hf10) ((hfr10.monoT (.of e11)).keys KF) (st_of (e11 _ _ hzb10))))) (by rw [g3]; rfl)) fun _ => et_test (ev_op (ev_var rfl) (ev_ixT (ev_op (ev_var rfl) (ev_var rfl) (rv_fdget (e11 _ _ hf10) ((hfr10.monoT (.of e11)).keys KF) (st_of (e11 _ _ hzb10)) g3)) ev_c (e11 _ _ he3) at0) (rv_ltT (ns := key (cadd y00.1 y.2)) (ms := key y3.1) (e11 _ _ htb) (e11 _ _ hc3)))) (Bool.false_or _)) (fun hlt H13 e13 => ?_) (fun hlt H13 e13 => ?_)
            · have ee := (e10.trans e11).trans e13
              have fne : ∀ (l : Addr) (o : HO), H13 l = some o → (∀ es, o ≠ FdO P w f es) → l ≠ f := fun l o h n e => by
                rw [e, ee _ _ hf9] at h
                exact n _ (Option.some.inj h).symm
              obtain ⟨⟨kvs1, k2, k3⟩, k4⟩ := hpl9.mono ee
              have k5 := ee _ _ hsa9
              refine s_setFd (c := cadd y00.1 y.2) (x := nd) KF (ns10.mono (e11.trans e13)) rfl rfl rfl rfl (ee _ _ hzb) ((e11.trans e13) _ _ htb) (hnx9.mono ee) len3 fun H14 ns14 kl14 et14 => ?_
              refine ⟨_, _, _, rfl, ?_, kl14 _ _ k5 (fne _ _ k5 fun _ h => nomatch h), ⟨⟨kvs1, kl14 _ _ k2 (fne _ _ k2 fun _ h => nomatch h), k3⟩, kl14 _ _ k4 (fne _ _ k4 fun _ h => nomatch h)⟩, et9.trans ((ExT.of ee).trans et14), by rw [em]; exact gr'⟩
              rw [em, ek, er, hlt, if_pos rfl]
              exact ns14
            · have ee := (e10.trans e11).trans e13
              refine ⟨_, _, _, rfl, ?_, ee _ _ hsa9, hpl9.mono ee, et9.trans (.of ee), by rw [em]; exact gr'⟩
              rw [em, ek, er, hlt, if_neg Bool.false_ne_true]
              exact ns3.mono ee
        · rintro σ' H9 ⟨o7, o8, o9, rfl, ns3, hsa9, hpl9, et9, gr9⟩
          rw [hslen, List.take_length] at ns3 gr9
          exact ⟨_, _, _, _, rfl, by rw [ej]; exact ns3, hpl9.2, fun _ => hpl9, (et.trans (.of e8)).trans et9, by rw [ej]; exact gr.trans gr9⟩
      · rintro σ' H' ⟨o6, o7, o8, o9, rfl, ns2, hl', hpl', et, gr⟩
        rw [hlen, List.take_length] at ns2
        obtain ⟨es, hf9, hfr⟩ := ns2.hf
        have len2 := hp1352 _ ns2.ok
        have e1 := hfr.len
        have e2 : (keysOf ((nodesAt fd q).foldl (turnAt r u wr) fd)).length = ((nodesAt fd q).foldl (turnAt r u wr) fd).length := List.length_map ..
        refine s_when (b := false) (et_is (et_test (ev_op (ev_lenFd (ev_var rfl) hf9 (hfr.keys KF)) ev_c rv_I0)) (decide_eq_false (by omega))) (fun h => nomatch h) fun _ H9 e9 => ?_
        exact ⟨_, _, _, _, _, rfl, by rw [ei]; exact ns2.mono e9, e9 _ _ (et _ _ (e7 _ _ hta'))⟩
    · rintro σ' H' ⟨o5, o6, o7, o8, o9, rfl, ns, hta'⟩
      obtain ⟨es, h1, h2⟩ := ns.hf
      refine s_ret (ev_var rfl) fun H7 e7 => k _ H7 (ns.ex.trans e7) ⟨f, es, rfl, e7 _ _ h1, ?_⟩
      have e8 : ps.take (ps.map V.int).length = ps := by rw [List.length_map, List.take_length]
      rw [e8] at h2
      exact h2.monoT (.of e7)
end
end K51
set_option maxHeartbeats 4000000
set_option linter.all false
set_option maxRecDepth 100000
namespace K51
/-! ### all nodes: reached, least -/
theorem turnAt_ok {r : Row} {ru : Ru} {wr : Bool} {P : Int} {fd : Fd} {D : Done} {x : Nd} (j : J r ru wr fd D P) (hx : (fget fd x).isSome = true) (hp : x.p = P) :
    J r ru wr (turnAt r ru wr fd x) (fun q z => D q z ∨ (q = x ∧ z ∈ outs r ru wr x)) P ∧ ∃ more, (turnAt r ru wr fd x).map (·.1) = fd.map (·.1) ++ more ∧ ∀ z ∈ more, P < z.p := by
  obtain ⟨h1, h2, h3⟩ := relaxes_ok (outs r ru wr x) fd D j hx hp fun y hy => hy
  exact ⟨h1, h3⟩
theorem turns_ok {r : Row} {ru : Ru} {wr : Bool} {P : Int} : ∀ (ns : List Nd) (fd : Fd) (D : Done), J r ru wr fd D P → (∀ x ∈ ns, (fget fd x).isSome = true ∧ x.p = P) →
    J r ru wr (ns.foldl (turnAt r ru wr) fd) (fun q z => D q z ∨ (q ∈ ns ∧ z ∈ outs r ru wr q)) P ∧ ∃ more, (ns.foldl (turnAt r ru wr) fd).map (·.1) = fd.map (·.1) ++ more ∧ ∀ z ∈ more, P < z.p
  | [], fd, D, j, _ => ⟨j.imp (fun q y => by simp) (Int.le_refl _), [], by simp, fun z h => nomatch h⟩
  | x :: ns, fd, D, j, hx => by
    obtain ⟨hx1, hx2⟩ := hx x List.mem_cons_self
    obtain ⟨j1, m1, e1, l1⟩ := turnAt_ok j hx1 hx2
    have hn : ∀ y ∈ ns, (fget (turnAt r ru wr fd x) y).isSome = true ∧ y.p = P := fun y hy => by
      obtain ⟨a, b⟩ := hx y (List.mem_cons_of_mem _ hy)
      refine ⟨fget_isSome.mpr ?_, b⟩
      unfold keysOf
      rw [e1]
      exact List.mem_append_left _ (fget_isSome.mp a)
    obtain ⟨j2, m2, e2, l2⟩ := turns_ok ns (turnAt r ru wr fd x) _ j1 hn
    refine ⟨j2.imp (fun q z => ?_) (Int.le_refl _), m1 ++ m2, ?_, fun z hz => ?_⟩
    · rw [List.mem_cons]
      constructor
      · rintro ((h | ⟨h1, h2⟩) | ⟨h1, h2⟩)
        · exact .inl h
        · exact .inr ⟨.inl h1, by rw [h1]; exact h2⟩
        · exact .inr ⟨.inr h1, h2⟩
      · rintro (h | ⟨h1 | h1, h2⟩)
        · exact .inl (.inl h)
        · exact .inl (.inr ⟨h1, by rw [← h1]; exact h2⟩)
        · exact .inr ⟨h1, h2⟩
    · rw [List.foldl_cons, e2, e1, List.append_assoc]
    · rcases List.mem_append.mp hz with h | h
      · exact l1 z h
      · exact l2 z h
theorem places_fold {r : Row} {ru : Ru} {wr : Bool} : ∀ (post pre : List Int) (fd : Fd) (P : Int), J r ru wr fd (fun q y => q ∈ keysOf fd ∧ q.p ∈ pre ∧ y ∈ outs r ru wr q) P → (∀ a ∈ post, P ≤ a) → (∀ a ∈ pre, ∀ b ∈ post, a < b) → post.Pairwise (· < ·) →
    ∃ P', J r ru wr (post.foldl (turnPl r ru wr) fd) (fun q y => q ∈ keysOf (post.foldl (turnPl r ru wr) fd) ∧ q.p ∈ pre ++ post ∧ y ∈ outs r ru wr q) P'
  | [], pre, fd, P, j, _, _, _ => ⟨P, j.imp (fun q y => by simp) (Int.le_refl _)⟩
  | a :: post, pre, fd, P, j, hP, hpre, hs => by
    have j1 : J r ru wr fd (fun q y => q ∈ keysOf fd ∧ q.p ∈ pre ∧ y ∈ outs r ru wr q) a := j.imp (fun _ _ => Iff.rfl) (hP a List.mem_cons_self)
    obtain ⟨j2, more, e, hm⟩ := turns_ok (nodesAt fd a) fd _ j1 fun x hx => by
      rw [nodesAt_eq] at hx
      obtain ⟨h1, h2⟩ := nodesK_mem hx
      exact ⟨fget_isSome.mpr h1, h2⟩
    have j3 : J r ru wr (turnPl r ru wr fd a) (fun q y => q ∈ keysOf (turnPl r ru wr fd a) ∧ q.p ∈ pre ++ [a] ∧ y ∈ outs r ru wr q) a := j2.imp (fun q y => by
      have ek : keysOf (turnPl r ru wr fd a) = keysOf fd ++ more := e
      rw [ek, List.mem_append, List.mem_append]
      constructor
      · rintro (⟨h1, h2, h3⟩ | ⟨h1, h2⟩)
        · exact ⟨.inl h1, .inl h2, h3⟩
        · rw [nodesAt_eq] at h1
          obtain ⟨h3, h4⟩ := nodesK_mem h1
          exact ⟨.inl h3, .inr (by rw [h4]; exact List.mem_cons_self), h2⟩
      · rintro ⟨h1 | h1, h2, h3⟩
        · rcases h2 with h2 | h2
          · exact .inl ⟨h1, h2, h3⟩
          · refine .inr ⟨?_, h3⟩
            rw [nodesAt_eq]
            unfold nodesK
            exact List.mem_filter.mpr ⟨h1, decide_eq_true (List.mem_singleton.mp h2)⟩
        · have := hm q h1
          rcases h2 with h2 | h2
          · have := hpre _ h2 a List.mem_cons_self
            omega
          · have := List.mem_singleton.mp h2
            omega) (Int.le_refl _)
    rw [List.pairwise_cons] at hs
    obtain ⟨P', j4⟩ := places_fold post (pre ++ [a]) (turnPl r ru wr fd a) a j3 (fun b hb => by have := hs.1 b hb; omega) (fun c hc b hb => by
      rcases List.mem_append.mp hc with hc | hc
      · exact hpre c hc b (List.mem_cons_of_mem _ hb)
      · rw [List.mem_singleton.mp hc]
        exact hs.1 b hb) hs.2
    rw [List.append_assoc] at j4
    exact ⟨P', j4⟩
theorem places_sorted (r : Row) (hyp : Int) : ((-1 : Int) :: (places r hyp).map (fun (i : Nat) => (i : Int))).Pairwise (· < ·) := by
  rw [List.pairwise_cons]
  refine ⟨fun b hb => ?_, ?_⟩
  · obtain ⟨i, _, e⟩ := List.mem_map.mp hb
    omega
  · rw [List.pairwise_map]
    unfold places
    refine List.Pairwise.filter _ ?_
    refine List.Pairwise.imp ?_ (List.pairwise_lt_range (n := r.length))
    intro a b h
    omega
theorem good_place {r : Row} {hyp : Int} {x : Nd} (g : Good r hyp x) : x.p ∈ ((-1 : Int) :: (places r hyp).map (fun (i : Nat) => (i : Int))) := by
  rcases g with g | ⟨g1, g2, g3⟩
  · rw [g]
    exact List.mem_cons_self
  · refine List.mem_cons_of_mem _ (List.mem_map.mpr ⟨x.p.toNat, ?_, by omega⟩)
    unfold places
    exact List.mem_filter.mpr ⟨List.mem_range.mpr (by omega), g3⟩
theorem j_begun (r : Row) (ru : Ru) (wr : Bool) : J r ru wr begun (fun q y => q ∈ keysOf begun ∧ q.p ∈ ([] : List Int) ∧ y ∈ outs r ru wr q) (-1) :=
  ⟨List.nodup_cons.mpr ⟨(fun h => nomatch h), List.nodup_nil⟩, by rfl, fun x c o e => by
    have h1 := fget_mem e
    have h2 : (x, (c, o)) = (first, zero, none) := List.mem_singleton.mp h1
    cases h2
    exact .inl ⟨rfl, rfl, rfl⟩, fun q cq oq x d _ h => absurd h.2.1 List.not_mem_nil, fun q y h => absurd h.2.1 List.not_mem_nil, fun x v e => by
    have h1 := fget_mem e
    have h2 : (x, v) = (first, zero, none) := List.mem_singleton.mp h1
    cases h2
    exact first_good⟩
/-- the whole of it -/
theorem all_j (r : Row) (ru : Ru) (wr : Bool) : ∃ P, J r ru wr (allNodes r ru wr) (fun q y => q ∈ keysOf (allNodes r ru wr) ∧ y ∈ outs r ru wr q) P := by
  obtain ⟨P, j⟩ := places_fold ((-1 : Int) :: (places r ru.hyp).map (fun (i : Nat) => (i : Int))) [] begun (-1) (j_begun r ru wr) (fun a ha => by
    rcases List.mem_cons.mp ha with e | ha
    · omega
    · obtain ⟨i, _, e⟩ := List.mem_map.mp ha
      omega) (fun a ha => nomatch ha) (places_sorted r ru.hyp)
  refine ⟨P, J.imp j (fun q y => ?_) (Int.le_refl _)⟩
  show (q ∈ keysOf (allNodes r ru wr) ∧ q.p ∈ [] ++ _ ∧ y ∈ outs r ru wr q) ↔ _
  constructor
  · rintro ⟨h1, _, h3⟩
    exact ⟨h1, h3⟩
  · rintro ⟨h1, h3⟩
    refine ⟨h1, ?_, h3⟩
    obtain ⟨v, hv⟩ := Option.isSome_iff_exists.mp (fget_isSome.mpr h1)
    exact good_place (j.good q v hv)
theorem turnAt_fdok {r : Row} {ru : Ru} {wr : Bool} {x : Nd} (hx : NdOk r ru.hyp x) : ∀ (ys : List (Nd × Cost)) (fd : Fd), (∀ y ∈ ys, y ∈ outs r ru wr x) → FdOk r ru.hyp (keysOf fd) → FdOk r ru.hyp (keysOf (ys.foldl (relax x) fd)) ∧ ∃ more, keysOf (ys.foldl (relax x) fd) = keysOf fd ++ more
  | [], fd, _, h => ⟨h, [], by simp⟩
  | y :: ys, fd, hy, h => by
    have h1 := relax_fdok (x := x) (fd := fd) (y := y) h (hx.out (y := y.1) (d := y.2) (hy y List.mem_cons_self)).1
    obtain ⟨h2, m2, e2⟩ := turnAt_fdok hx ys (relax x fd y) (fun z hz => hy z (List.mem_cons_of_mem _ hz)) h1
    refine ⟨h2, ?_⟩
    rw [List.foldl_cons, e2, relax_keys]
    split
    · exact ⟨m2, rfl⟩
    · exact ⟨[y.1] ++ m2, by rw [List.append_assoc]⟩
theorem turns_fdok {r : Row} {ru : Ru} {wr : Bool} : ∀ (ns : List Nd) (fd : Fd), (∀ x ∈ ns, x ∈ keysOf fd) → FdOk r ru.hyp (keysOf fd) → FdOk r ru.hyp (keysOf (ns.foldl (turnAt r ru wr) fd))
  | [], fd, _, h => h
  | x :: ns, fd, hx, h => by
    obtain ⟨h1, m, e⟩ := turnAt_fdok (wr := wr) (h.ok x (hx x List.mem_cons_self)) (outs r ru wr x) fd (fun y hy => hy) h
    refine turns_fdok ns (turnAt r ru wr fd x) (fun y hy => ?_) h1
    show y ∈ keysOf ((outs r ru wr x).foldl (relax x) fd)
    rw [e]
    exact List.mem_append_left _ (hx y (List.mem_cons_of_mem _ hy))
theorem all_fdok (r : Row) (ru : Ru) (wr : Bool) : FdOk r ru.hyp (keysOf (allNodes r ru wr)) := by
  have key : ∀ (l : List Int) (fd : Fd), FdOk r ru.hyp (keysOf fd) → FdOk r ru.hyp (keysOf (l.foldl (turnPl r ru wr) fd)) := by
    intro l
    induction l with
    | nil => exact fun fd h => h
    | cons a l ih =>
      intro fd h
      refine ih _ (turns_fdok (nodesAt fd a) fd (fun x hx => ?_) h)
      rw [nodesAt_eq] at hx
      exact (nodesK_mem hx).1
  refine key _ begun ⟨List.nodup_cons.mpr ⟨(fun h => nomatch h), List.nodup_nil⟩, fun y hy => ?_⟩
  have e : y = first := by simpa [keysOf, begun] using hy
  rw [e]
  exact first_ok
/-! ### ways -/
inductive Chain (fd : Fd) : Nd → List Int → Prop
  | nil : Chain fd first []
  | snoc {x p : Nd} {c : Cost} {w : List Int} : x ≠ first → fget fd x = some (c, some p) → Chain fd p w → Chain fd x (w ++ [x.p])
theorem chain_of {r : Row} {ru : Ru} {wr : Bool} {fd : Fd} {P : Int} (j : J r ru wr fd (fun q y => q ∈ keysOf fd ∧ y ∈ outs r ru wr q) P) : ∀ (n : Nat) (x : Nd) (v : Cost × Option Nd), fget fd x = some v → x.p < (n : Int) → ∃ w, Chain fd x w ∧ Path r ru wr x v.1 w
  | n, x, (c, o), hx, hn => by
    rcases j.src x c o hx with ⟨h1, h2, h3⟩ | ⟨q, cq, oq, d, h1, h2, h3, h4⟩
    · rw [h1, h2]
      exact ⟨[], .nil, .nil⟩
    · have hq := j.good q _ h2
      obtain ⟨g, lt, _, ge⟩ := outs_good hq h3.2
      match n, hn with
      | 0, hn => omega
      | n + 1, hn =>
        obtain ⟨w, hc, hp⟩ := chain_of j n q (cq, oq) h2 (by omega)
        refine ⟨w ++ [x.p], .snoc (fun e => ?_) (by rw [hx, h1]) hc, ?_⟩
        · rw [e] at ge
          exact absurd ge (by decide)
        · rw [h4]
          exact .snoc hp h3.2
theorem least_of {r : Row} {ru : Ru} {wr : Bool} {fd : Fd} {P : Int} (j : J r ru wr fd (fun q y => q ∈ keysOf fd ∧ y ∈ outs r ru wr q) P) {x : Nd} {c : Cost} {w : List Int} (h : Path r ru wr x c w) : ∃ cx ox, fget fd x = some (cx, ox) ∧ clt c cx = false := by
  induction h with
  | nil => exact ⟨zero, none, j.fst, cle_refl _⟩
  | @snoc x y c d w hp hy ih =>
    obtain ⟨cx, ox, h1, h2⟩ := ih
    obtain ⟨cy, oy, h3, h4⟩ := j.out x cx ox y d h1 ⟨fget_isSome.mp (by rw [h1]; rfl), hy⟩
    exact ⟨cy, oy, h3, cle_trans h4 (cadd_mono h2)⟩
end K51
set_option Elab.async false
set_option linter.all false
set_option maxRecDepth 100000
set_option maxHeartbeats 4000000
namespace K51
open PySem PySem.Spec PyProof.Rows L2 Evl
/-! ### way_to -/
def nodeD (x : Nd) : PyData := .tuple [.int x.p, .int x.n, .int x.c, .bool x.h]
theorem nodeD_eqv (x y : Nd) : PyData.eqv (nodeD x) (nodeD y) = decide (x = y) := by
  obtain ⟨a, b, c, d⟩ := x
  obtain ⟨a', b', c', d'⟩ := y
  show ((a == a') && ((b == b') && ((c == c') && ((d == d') && true)))) = _
  rw [Bool.eq_iff_iff]
  simp only [Bool.and_eq_true, beq_iff_eq, decide_eq_true_eq, Nd.mk.injEq, and_true]
theorem nodeD_dp {K : PySem.W.Frag} {H : Hp} {a : Addr} {x : Nd} (h : SqT K H a (nodeV x)) : Dp K H (.ref a) (nodeD x) := .tup h (.cons (.int _) (.cons (.int _) (.cons (.int _) (.cons (.bl _) .nil))))
theorem nodeD_sh (x : Nd) : SeqAt.shaped (nodeD x) = true := by rfl
section
variable {P : Program} {w : World} {K : PySem.W.Frag} {mg : Str → Option Value} {base : Heap} {cG cR cL aF : Addr}
theorem rv_neNd {σ : L2.St} {H : Hp} {a b : Addr} {x y : Nd} (ha : SqT K H a (nodeV x)) (hb : SqT K H b (nodeV y)) : RV (rNeD K) (.ref a) (.ref b) H (.bl (!decide (x = y))) :=
  rv_val fun H1 e Q q => ⟨nodeD x, nodeD y, nodeD_dp (ex_t e ha), nodeD_dp (ex_t e hb), nodeD_sh x, nodeD_sh y, by rw [nodeD_eqv]; exact q⟩
abbrev st_way_to : Stmt := top 62
def nm_way_to : List Str := ["found", "node", "places"]
theorem sc_way_to : FnScope nm_way_to ["found", "node"] (defScope st_way_to) := ⟨rfl, rfl, rfl, by decide +kernel, rfl, by decide +kernel, by decide +kernel⟩
def sp_way_to (P : Program) (w : World) (aF : Addr) : Sp := spR fun vs H R => ∃ (f : Addr) (es : Es) (fd : Fd) (xv : V) (x : Nd) (wy : List Int), vs = [.ref f, xv] ∧ H f = some (FdO P w f es) ∧ FdR aF H es fd ∧ NdAt aF H xv x ∧ Chain fd x wy ∧ wy.length ≤ 1000 ∧
  R = fun v H2 => TupAt H2 v (wy.map V.int)
theorem ok_way_to (T : Tx K mg cG cR cL aF) (KF : KFst K aF) (D : DefAt K mg "way_to" "way_to" "way_to" st_way_to) : Cal P w K mg base "way_to" ["found", "node"] 1 (sp_way_to P w aF) := by
  refine cal_of D sc_way_to (fun _ _ _ _ _ _ us hl => match us, hl with | [_, _], _ => rfl) (fun vs H Q E h => ?_) (fun f cdv A outer s H vs Q E hr h => ?_)
  · obtain ⟨R, ⟨f, es, fd, xv, x, wy, rfl, _⟩, _⟩ := h
    rfl
  · obtain ⟨R, ⟨f, es, fd, xv, x, wy, rfl, hf, hfr, hx, hch, hlen, rfl⟩, k⟩ := h
    refine ⟨_, (pss_cons (ps_set (i := 2) sc_way_to.nd rfl (Or.inl rfl) (pe_lst pa_nil))
      (pss_cons (ps_while PassesOwn.never (pt_cmpR (op_neD hr.units) (pv 1) (pe_gr T.g_FIRST_NODE) (nomark _)) (pss_cons (ps_expr (pe_bm PySem.F.plainAttrs_list PySem.F.slot_list_append PySem.F.type_list_append mt_append (pv 2) (pa_cons (pe_ix ix_tup (pv 1) pe_int (fun _ _ => rfl)) pa_nil)))
      (pss_one (ps_set (i := 1) sc_way_to.nd rfl (Or.inl rfl) (pe_ix ix_tup (pe_fdgetP (P := P) (w := w) (K := K) rfl rfl rfl hr.u1 (pv 0) (pv 1) (fun _ _ => rfl)) pe_int (fun _ _ => rfl))))))
      (pss_one (ps_ret (pe_callTy call_tuple_of (by rfl) T.tuple_ (by decide +kernel) (pa_cons (pe_revL (pv 2)) pa_nil)))))), ?_⟩
    refine q_asgL (el_lst ea_nil (by decide)) fun l H1 hl1 e1 h1 => ?_
    refine q_while (fun m σ' H' => ∃ (y : Nd) (yv : V) (w1 w2 : List Int), σ' = [some (.ref f), some yv, some (.ref l)] ∧ NdAt aF H' yv y ∧ Chain fd y w1 ∧ wy = w1 ++ w2 ∧ H' l = some (.lst (w2.reverse.map V.int)) ∧ Ex H H' ∧ m = w1.length) wy.length ⟨x, xv, wy, [], rfl, hx.mono e1, hch, by rw [List.append_nil], h1, e1, rfl⟩ ?_
    rintro m σ' H' ⟨y, yv, w1, w2, rfl, hy, hc, hw, hl, eH, rfl⟩
    obtain ⟨ya, rfl, hya⟩ := hy.sq KF
    have hFst : SqT K H' aF (nodeV first) := .inr KF
    refine ⟨!decide (y = first), et_test (ev_op (ev_var rfl) ev_c (rv_neNd (σ := []) hya hFst)), fun hb H2 e2 => ?_, fun hb H2 e2 => ?_⟩
    · have hne : y ≠ first := by simpa using hb
      cases hc with
      | nil => exact absurd rfl hne
      | @snoc _ p c w3 _ hg hc =>
        have hl2 := e2 _ _ hl
        have w2l : w2.length < 100000 := by
          have := congrArg List.length hw
          rw [List.length_append] at this
          omega
        refine ⟨_, fun _ _ h => h, q_app hl2 (ev_var rfl) (ev_op (ev_var rfl) ev_c (rv_ixT (ex_t e2 hya) at0)) (by rw [List.length_map, List.length_reverse]; exact w2l) fun H3 e3 => ?_⟩
        have nl : H l = none := hl1
        have e4 : Ex H (upd H3 l (.lst (w2.reverse.map V.int ++ [.int y.p]))) := Ex.mut ((eH.trans e2).trans e3) nl
        have hl3 := e3 _ _ hl2
        have et : ExT H' (upd H3 l (.lst (w2.reverse.map V.int ++ [.int y.p]))) := (ExT.of (e2.trans e3)).trans (.upd hl3 fun _ h => nomatch h)
        have hfr4 := hfr.monoT (.of e4)
        have hy4 : NdAt aF (upd H3 l (.lst (w2.reverse.map V.int ++ [.int y.p]))) (.ref ya) y := hy.monoT et
        obtain ⟨a', ea, hya4⟩ := hy4.sq KF
        cases ea
        rcases hfr4.get y with ⟨_, g2⟩ | ⟨v0, y0, g1, g2, cv0, ov0, ⟨e0, rfl, he0⟩, _, ho⟩
        · rw [hg] at g2
          cases g2
        · rw [hg] at g2
          cases g2
          obtain ⟨pa, rfl, hpa⟩ := NdAt.sq KF (show NdAt aF _ ov0 p from ho)
          refine s_asg (ev_ixT (ev_op (ev_var rfl) (ev_var rfl) (rv_fdget (e4 _ _ hf) (hfr4.keys KF) hya4 g1)) ev_c he0 at1) fun H5 e5 => ⟨_, ?_, p, .ref pa, w3, y.p :: w2, rfl, (show NdAt aF _ (.ref pa) p from ho).mono e5, hc, ?_, ?_, e4.trans e5, rfl⟩
          · rw [List.length_append]
            exact Nat.lt_succ_self _
          · rw [hw, List.append_assoc]
            rfl
          · rw [List.reverse_cons, List.map_append]
            exact e5 _ _ upd_same
    · have heq : y = first := by simpa using hb
      cases hc with
      | snoc hne _ _ => exact absurd heq hne
      | nil =>
        rw [List.nil_append] at hw
        have hl2 := e2 _ _ hl
        refine ⟨.ref l, rfl, l, _, rfl, sq_of hl2, fun p hp => ⟨p, _, rfl, .inl ⟨sq_of upd_same, fun q hq => k _ _ (((eH.trans e2).trans (Ex.new hp)).trans (Ex.new hq)) ⟨q, rfl, ?_⟩⟩⟩⟩
        rw [upd_same, ← List.map_reverse, List.reverse_reverse, hw]
end
end K51
set_option Elab.async false
set_option linter.all false
set_option maxRecDepth 100000
set_option maxHeartbeats 4000000
namespace K51
open PySem PySem.Spec PyProof.Rows L2 Evl LamX
/-! ### keys: a tuple of ints, or a pair of such a tuple and an int -/
def OKey (sh : Bool) (H : Hp) (v : V) (k : List Int) : Prop := if sh = true then ∃ c n ns, TupAt H v [c, .int n] ∧ TupAt H c (ns.map V.int) ∧ ns.length = 3 ∧ k = ns ++ [n] else TupAt H v (k.map V.int)
theorem OKey.monoT {sh : Bool} {H H' : Hp} {v : V} {k : List Int} (e : ExT H H') (h : OKey sh H v k) : OKey sh H' v k := by
  cases sh with
  | true =>
    obtain ⟨c, n, ns, h1, h2, h3, h4⟩ := h
    exact ⟨c, n, ns, h1.monoT e, h2.monoT e, h3, h4⟩
  | false => exact TupAt.monoT e h
theorem ht_lex (ns ms : List Int) : HT.lexLt ns ms = lexLt ns ms := by
  induction ns generalizing ms with
  | nil => cases ms <;> rfl
  | cons x xs ih =>
    cases ms with
    | nil => rfl
    | cons y ys =>
      unfold HT.lexLt lexLt
      rw [ih]
theorem ints_items {P : Program} {w : World} : ∀ {ns : List Int} {us : List Value}, Vals (ns.map V.int) us → ItemsAre (ibKind P w) ns us
  | [], _, r => by rw [List.map_nil] at r; cases r; exact .nil
  | k :: ks, _, r => by
    rw [List.map_cons] at r
    cases r with
    | cons h t =>
      obtain ⟨t0, rfl⟩ := h
      exact .cons (beq_self_eq_true _) (ints_items t)
theorem lex_snoc : ∀ (ns ms : List Int) (n m : Int), ns.length = ms.length → lexLt (ns ++ [n]) (ms ++ [m]) = if ns = ms then decide (n < m) else lexLt ns ms
  | [], [], n, m, _ => by
    show (if n = m then lexLt [] [] else decide (n < m)) = _
    rw [if_pos rfl]
    split
    · rename_i h
      rw [h]
      show false = _
      exact (decide_eq_false (Int.lt_irrefl m)).symm
    · rfl
  | [], _ :: _, _, _, h => by simp at h
  | _ :: _, [], _, _, h => by simp at h
  | x :: xs, y :: ys, n, m, h => by
    have ih := lex_snoc xs ys n m (by simpa using h)
    show (if x = y then lexLt (xs ++ [n]) (ys ++ [m]) else decide (x < y)) = if x :: xs = y :: ys then decide (n < m) else (if x = y then lexLt xs ys else decide (x < y))
    by_cases e : x = y
    · rw [if_pos e, if_pos e, ih]
      by_cases e2 : xs = ys
      · rw [if_pos e2, if_pos (by rw [e, e2])]
      · rw [if_neg e2, if_neg (fun z => e2 (List.cons.inj z).2)]
    · rw [if_neg e, if_neg e, if_neg (fun z => e (List.cons.inj z).1)]
section
variable {X : Cx} {pins : List (Addr × Obj)} {σ : L2.St} {H : Hp} {s : Shared} {A : Around} {x y : V} {u v : Value} {k k' : List Int}
theorem flat_lt (I : Inv X pins σ H s) (hu : A.units < cLine) (h1 : TupAt H x (k.map V.int)) (h2 : TupAt H y (k'.map V.int)) (rx : RelV x u) (ry : RelV y v) : Ob.RcOp .Lt A s u v (lexLt k k') := fun prog w E Q q => by
  obtain ⟨a, rfl, ha⟩ := h1
  obtain ⟨b, rfl, hb⟩ := h2
  cases rx
  cases ry
  obtain ⟨its, r1, p1, _⟩ := I.tuple (st_of (K := X.K) ha)
  obtain ⟨its2, r2, p2, _⟩ := I.tuple (st_of (K := X.K) hb)
  have i1 : IntsAre its.toArray.toList k := intsAre_of r1
  have i2 : IntsAre its2.toArray.toList k' := intsAre_of r2
  have z : wpAny (model prog w) A (compareOp .Lt (.ref a) (.ref b)) Q E s := HT.lt_tupInts p1 p2 i1 i2 hu (by rw [ht_lex]; exact q)
  exact z
theorem okey_lt {sh : Bool} (I : Inv X pins σ H s) (hu : A.units + 2 < cLine) (h1 : OKey sh H x k) (h2 : OKey sh H y k') (rx : RelV x u) (ry : RelV y v) : Ob.RcOp .Lt A s u v (lexLt k k') := by
  cases sh with
  | false => exact flat_lt I (by omega) h1 h2 rx ry
  | true =>
    obtain ⟨c, n, ns, ⟨a, rfl, ha⟩, ⟨ca, rfl, hc⟩, hl, rfl⟩ := h1
    obtain ⟨c', m, ms, ⟨b, rfl, hb⟩, ⟨cb, rfl, hc'⟩, hl', rfl⟩ := h2
    cases rx
    cases ry
    obtain ⟨its, r1, p1, _⟩ := I.tuple (st_of (K := X.K) ha)
    obtain ⟨its2, r2, p2, _⟩ := I.tuple (st_of (K := X.K) hb)
    cases r1 with
    | cons q1 r1 => cases r1 with
      | cons q2 r1 =>
        cases r1
        cases r2 with
        | cons q3 r2 => cases r2 with
          | cons q4 r2 =>
            cases r2
            cases q1
            cases q3
            obtain ⟨t1, rfl⟩ := q2
            obtain ⟨t2, rfl⟩ := q4
            have R := Ob.RcOp.tuples_lt (A := A) (s := s) (e := fun j => if j = 0 then decide (ns = ms) else n == m) (r := fun j => if j = 0 then lexLt ns ms else decide (n < m)) p1 p2 (by omega) (fun j h1 h2 => ?_) (fun j h1 h2 _ => ?_)
            · have e : Ob.lexAt (fun j => if j = 0 then decide (ns = ms) else n == m) (fun j => if j = 0 then lexLt ns ms else decide (n < m)) (decide ((#[Value.ref ca, .int n t1] : Array Value).size < (#[Value.ref cb, .int m t2] : Array Value).size)) 0 (min (#[Value.ref ca, .int n t1] : Array Value).size (#[Value.ref cb, .int m t2] : Array Value).size) = lexLt (ns ++ [n]) (ms ++ [m]) := by
                rw [lex_snoc ns ms n m (by omega)]
                show (if decide (ns = ms) = true then (if (n == m) = true then false else decide (n < m)) else lexLt ns ms) = _
                by_cases e1 : ns = ms
                · rw [if_pos (decide_eq_true e1), if_pos e1]
                  by_cases e2 : n = m
                  · rw [if_pos (by rw [e2]; exact beq_self_eq_true m), e2]
                    exact (decide_eq_false (Int.lt_irrefl m)).symm
                  · rw [if_neg (fun z => e2 (eq_of_beq z))]
                · rw [if_neg (fun z => e1 (of_decide_eq_true z)), if_neg e1]
              rw [← e]
              exact R
            · match j, h1 with
              | 0, _ =>
                intro prog w E Q q
                have tk : ∀ {b : Addr} {js : List Int}, H b = some (.tup (js.map V.int)) → IsTupleKey (ibKind prog w) s.heap js b := fun {b js} e => by
                  obtain ⟨_, its, r, o, h1, h2, n, h3⟩ := (show ObjOk X.prog X.w H s.heap b (.tup (js.map V.int)) from I.hok b _ e)
                  exact ⟨o, its.toArray, n, h1, h2, h3, by simpa using ints_items r⟩
                exact wpAny_eqBool_tuple (show A.in1.units < cLine by show A.units + 1 < cLine; omega) (tk hc) (tk hc') q
              | 1, _ => exact SeqAt.EqAt.int_int n t1 m t2
              | j + 2, h => exact absurd h (by show ¬ (j + 2 < 2); omega)
            · match j, h1 with
              | 0, _ => exact flat_lt I (show A.in1.units < cLine by show A.units + 1 < cLine; omega) ⟨ca, rfl, hc⟩ ⟨cb, rfl, hc'⟩ rfl rfl
              | 1, _ => exact Ob.RcOp.lt_int n m t1 t2
              | j + 2, h => exact absurd h (by show ¬ (j + 2 < 2); omega)
end
/-! ### a lambda of one parameter, called by a builtin -/
structure LamS1 (sc scope : Scope) (a : Str) : Prop where
  kind : scope.kind = .function
  co : scope.isCoroutine = false
  gen : scope.isGenerator = false
  own : ∀ y ∈ scope.names, y.2 ≠ .cell ∧ (y.2 = .local → y.1 = a)
  par : scope.names.lookup a = some .local
  free : ∀ y ∈ scope.names, y.2 = .free → sc.names.lookup y.1 = some .cell ∨ sc.names.lookup y.1 = some .free
def lamS1B (sc scope : Scope) (a : Str) : Bool :=
  decide (scope.kind = .function) && !scope.isCoroutine && !scope.isGenerator && decide (scope.names.lookup a = some .local) && scope.names.all fun y => !decide (y.2 = .cell) && (!decide (y.2 = .local) || decide (y.1 = a)) && (!decide (y.2 = .free) || decide (sc.names.lookup y.1 = some .cell) || decide (sc.names.lookup y.1 = some .free))
theorem lamS1_by {sc scope : Scope} {a : Str} (h : lamS1B sc scope a = true) : LamS1 sc scope a := by
  unfold lamS1B at h
  simp only [Bool.and_eq_true, Bool.or_eq_true, Bool.not_eq_true', decide_eq_true_eq, decide_eq_false_iff_not, List.all_eq_true] at h
  obtain ⟨⟨⟨⟨h1, h2⟩, h3⟩, h5⟩, h4⟩ := h
  refine ⟨h1, h2, h3, fun y hy => ⟨(h4 y hy).1.1, fun e => ?_⟩, h5, fun y hy e => ?_⟩
  · rcases (h4 y hy).1.2 with z | z
    · exact absurd e z
    · exact z
  · rcases (h4 y hy).2 with (z | z) | z
    · exact absurd e z
    · exact .inl z
    · exact .inr z
theorem LamS1.has {X : Cx} {scope : Scope} {a : Str} (L : LamS1 X.env.scope scope a) (ok : X.Ok) : ∀ y ∈ scope.names, y.2 = .free → ∃ c, X.env.cells.lookup y.1 = some c := fun y hy e => by
  rcases L.free y hy e with k | k
  · exact ok.has _ (.inl k)
  · exact ok.has _ (.inr k)
section
variable {X : Cx} {pins : List (Addr × Obj)} {σ : L2.St} {H : Hp} {s : Shared}
theorem lam_start1 {A : Around} {outer : List Env} {E : XK} {scope : Scope} {f c' : Addr} {h₁ : Heap} {tk i : Nat} {a : Str} {u : Value} {v : V} (I : Inv X pins σ H s) (L : LamS1 X.env.scope scope a) (e0 : Env0 X.prog X.w X.K X.mg X.base A outer s H) (hd : A.handled = none) (hN : X.N.Nodup) (hi : X.N[i]? = some a) (rv : L2.RelV v u)
    (hns : h₁.Ns s.heap.objs.size fun y => ([(a, u)] : List (Str × Value)).reverse.lookup y) (kp : ∀ b o, s.heap.get? b = some o → h₁.get? b = some o) :
    Inv (lamCx X A outer s H E scope f c') [] (σ.set i (some v)) H { s with heap := h₁, toks := tk } := by
  have hfree := L.has I.ok
  have cm : ∀ {y c}, (cloFrom X.env.cells scope.names []).lookup y = some c → X.env.cells.lookup y = some c := fun {y c} e => by
    rcases cloFrom_mem (PySem.mem_of_lookup e) with hm | ⟨h1, h2⟩
    · cases hm
    · obtain ⟨c1, hc⟩ := hfree _ h1 rfl
      have hc : X.env.cells.lookup y = some c1 := hc
      have e2 : c = c1 := by
        rw [h2, hc] <;> rfl
      rw [e2]
      exact hc
  have look : ∀ {y}, scope.names.lookup y = some .free → ∃ c, (cloFrom X.env.cells scope.names []).lookup y = some c := fun {y} hl => by
    have hy : (y, NameKind.free) ∈ scope.names := PySem.mem_of_lookup hl
    exact mem_lookup (cloFrom_has (cells := X.env.cells) (acc := []) hy)
  have cellK : ∀ {c : Addr} {v : Option Value}, s.heap.IsCell c v → h₁.IsCell c v := fun {c v} ⟨o, ho, hd⟩ => ⟨o, kp _ _ ho, hd⟩
  have noA : ∀ b : Addr, b ∉ (lamCx X A outer s H E scope f c').ex := fun b z => absurd (show b ∈ ([] : List Addr) from z) (by simp)
  refine ⟨⟨e0.mod, L.kind, rfl, rfl, Nat.le_refl _, fun y z c e1 e2 => I.ok.inj y z c (cm e1) (cm e2), fun y hy => ?_, fun y c z _ => ?_, fun _ => hd, Around.frames_deeper e0.frames, .inr ⟨rfl, rfl⟩, fun b z => absurd z (noA b), e0.bs, e0.bsz, fun b _ _ => noA b,
      fun b z => absurd z (noA b), e0.funs, e0.frf⟩,
    rfl, e0.bare, Un.kept kp, ⟨_, hns, fun j y v' e1 e2 e3 => ?_⟩, fun y c e => ?_, e0.hok.fresh (Nat.le_refl _), fun y c e => ?_, fun q hq => absurd (show q ∈ ([] : List (Addr × Obj)) ++ [] from hq) (by simp), e0.hok.kept kp, by rw [List.length_set]; exact I.len⟩
  · have hy : scope.names.lookup y = some .cell ∨ scope.names.lookup y = some .free := hy
    rcases hy with hy | hy
    · exact absurd rfl (L.own _ (PySem.mem_of_lookup hy)).1
    · exact look hy
  · have z : false = true := z
    cases z
  · have e1 : X.N[j]? = some y := e1
    by_cases hj : j = i
    · rw [hj, hi] at e1
      cases e1
      rw [hj, List.getElem?_set_self (by have := (List.getElem?_eq_some_iff.mp hi).1; rw [I.len]; exact this)] at e2
      cases e2
      exact ⟨u, rv, .inl ⟨L.par, by show List.lookup a [(a, u)] = some u; simp [List.lookup]⟩⟩
    · rw [List.getElem?_set_ne (Ne.symm hj)] at e2
      have hne : y ≠ a := fun z => by
        rw [z] at e1
        exact hj ((List.getElem?_inj (List.getElem?_eq_some_iff.mp e1).1 hN).mp (e1.trans hi.symm))
      have e3 : Vis scope y := e3
      rcases e3 with k | k | k
      · exact absurd ((L.own _ (PySem.mem_of_lookup k)).2 rfl) hne
      · exact absurd rfl (L.own _ (PySem.mem_of_lookup k)).1
      · obtain ⟨m, hn, hl⟩ := I.loc
        have hvis : Vis X.env.scope y := (L.free _ (PySem.mem_of_lookup k) rfl).elim (fun k => .inr (.inl k)) (fun k => .inr (.inr k))
        obtain ⟨w', r, q⟩ := hl j y v' e1 e2 hvis
        obtain ⟨c2, h2⟩ := look k
        refine ⟨w', r, .inr ⟨.inr k, c2, h2, ?_⟩⟩
        have c1 := cm h2
        rcases q with ⟨k', _⟩ | ⟨_, c3, e', z⟩
        · have k' : X.env.scope.names.lookup y = some .local := k'
          rcases L.free _ (PySem.mem_of_lookup k) rfl with k2 | k2 <;> rw [show X.env.scope.names.lookup y = _ from k2] at k' <;> cases k'
        · rw [c1] at e'
          cases e'
          exact cellK z
  · obtain ⟨w', z⟩ := I.cell y c (cm e)
    exact ⟨w', cellK z⟩
  · exact I.freeC y c (cm e)
/-- the lambda called -/
theorem lam_call1 {scope : Scope} {f c' : Addr} {k i : Nat} {a : Str} {params : Arguments} {body : Expr} {pm ctv : Value} {v : V} {u : Value} {Q : VK} {tb : TE} {EE : Value → Shared → Prop} (I : Inv X pins σ H s) (L : LamS1 X.env.scope scope a) (hN : X.N.Nodup) (hi : X.N[i]? = some a) (hc : X.A.in1.handled = none)
    (hf : s.heap.get? f = some (PySem.W.kla_obj "<lambda>" (X.env.qual ++ "<lambda>") params body scope (cloFrom X.env.cells scope.names []) pm c' ctv)) (hco : H c' = some (CodeO c' (X.env.qual ++ "<lambda>")))
    (hbind : bindArgs (PySem.W.kla_fn "<lambda>" (X.env.qual ++ "<lambda>") params body scope (cloFrom X.env.cells scope.names []) pm (.ref c') ctv) ⟨[u], []⟩ = pure [(a, u)]) (hr : Room (k + 1) X.A.in1)
    (hbody : ∀ (A : Around) (outer : List Env) (s : Shared) (H : Hp), Room k (A.deeper (lamEnv X scope s.heap.objs.size f c')) → PE (lamCx X A outer s H C8.E0 scope f c') body tb) (rv : L2.RelV v u) (ht : tb (σ.set i (some v)) H Q) :
    wpAny (model X.prog X.w) X.A.in1 (call (.ref f) [u]) (EP X pins σ Q) EE s := by
  obtain ⟨⟨oc, vs, t, hoc, hdc, hvc⟩, _, _⟩ := I.hok c' _ hco
  have rc : codeAny (model X.prog X.w) X.A.in1 (.call (.ref f) ⟨[u], []⟩) (CR (L2.CX X.prog X.w) X.stack X.prog X.w H s Q C8.E0) s := by
    refine PySem.W.kla_callFunE hr.depth hf rfl L.co L.gen rfl ⟨c', oc, vs, t, rfl, hoc, hdc, hvc⟩ ?_
    rw [hbind]
    refine wpAny_pure (wpAny_newFunctionEnv (fun y hy => (L.own y hy).1) (fun y hy => ?_) (fun h₁ hns hsb => ⟨I.nolimit.fresh _ hsb, ?_⟩) L.kind)
    · have e : y = (a, u) := by simpa using hy
      rw [e]
      exact L.par
    show codeAny _ _ (.expr body (lamEnv X scope s.heap.objs.size f c')) _ _
    have kp : ∀ b o, s.heap.get? b = some o → h₁.get? b = some o := fun b o e => hsb.extBut b o (Nat.ne_of_lt (Heap.lt_size e)) (Heap.get?_push_of_some _ e)
    have J : Inv (lamCx X X.A.in1 X.stack s H C8.E0 scope f c') [] (σ.set i (some v)) H { s with heap := h₁, toks := s.toks + ([(a, u)] : List (Str × Value)).length } :=
      lam_start1 I L I.env0.in1 hr.hd hN hi rv hns kp
    refine PySem.W.kla_codeExpr (wpAny_mono ((hbody _ _ s H (hr.deeper _)).run [] _ _ H Q J ht) (fun v s' hq => ?_) fun e s' hq => hq)
    obtain ⟨w', H', J', rv, q⟩ := hq
    exact ⟨w', H', J'.os, J'.bare, J'.base, J'.hok, rv, q⟩
  refine wpAny_call (codeAny_mono rc fun r s' hq => ?_)
  cases r with
  | error e =>
    obtain ⟨_, _, _, _, _, _, _, _, _, _, _, _, z⟩ := hq
    exact z.elim
  | ok fl =>
    cases fl with
    | ret u => exact I.after hq
    | next => exact False.elim hq
    | brk => exact False.elim hq
    | cont => exact False.elim hq
end
/-! ### min, with a key or without -/
def keyRun {α : Type} (key u : Value) (hd : Value → Sem Value) (k : Value → Sem α) : Sem α := match key with
  | .none => do
    let v ← pure u
    k v
  | _ => do
    let v ← (holding [u] (call key [u])).tryCatch hd
    k v
def Best (n : Nat) (kf : Nat → List Int) (i : Nat) : Prop := ∀ j, j < n → lexLt (kf j) (kf i) = false ∧ (j < i → lexLt (kf i) (kf j) = true)
theorem fs_sub {X : Cx} (ok : X.Ok) : ∀ b ∈ X.fs, b ∈ frs X.stack := fun b hb => by
  rcases ok.stk with e | ⟨e, hf⟩
  · rw [e]
    exact hb
  · rw [e]
    unfold frs
    rw [List.filterMap_cons, hf]
    exact List.mem_cons_of_mem _ hb
section
variable {X : Cx} {pins fpins : List (Addr × Obj)} {σ : L2.St} {sh : Bool} {kf : Nat → List Int} {xs : List V} {l S It : Addr} {key : Value} {H0 : Hp} {Q : VK}
/-- the key of the j-th item, asked in any state from H0 on -/
def KeyOk (X : Cx) (σ : L2.St) (sh : Bool) (kf : Nat → List Int) (xs : List V) (key : Value) (fpins : List (Addr × Obj)) (H0 : Hp) : Prop := ∀ (hd : Value → Sem Value) (k : Value → Sem PySem.Fin) (pins : List (Addr × Obj)) (s : Shared) (H : Hp) (j : Nat) (x : V) (u : Value) (R : PySem.Fin → Shared → Prop) (E : Value → Shared → Prop),
  Inv X pins σ H s → (∀ p ∈ fpins, s.heap.get? p.1 = some p.2) → Ex H0 H → xs[j]? = some x → RelV x u → (∀ (kv : Value) (kV : V) (H' : Hp) (s' : Shared), Inv X pins σ H' s' → Ex H H' → RelV kV kv → OKey sh H' kV (kf j) → wpAny (model X.prog X.w) X.A.in1 (k kv) R E s') → wpAny (model X.prog X.w) X.A.in1 (keyRun key u hd k) R E s
theorem fp_at {H' : Hp} {pins' : List (Addr × Obj)} {b : Addr} {H : Hp} (h : FpOk X pins H b) (n : H' b = none) : FpOk X pins H' b := ⟨n, h.2⟩
theorem min_loop (hh : X.A.in1.handled = none) (hu : X.A.in1.units + 2 < cLine) (hk : KeyOk X σ sh kf xs key fpins H0) (hl0 : H0 l = some (.lst xs)) (hSI : S ≠ It)
    (hQ : ∀ j x H', Ex H0 H' → xs[j]? = some x → Best xs.length kf j → Q x H') :
    ∀ (n j i : Nat) (s : Shared) (H : Hp) (xb kb : V) (vb ub : Value) (c : Nat), xs.length - (j + 1) = n → j + 1 ≤ xs.length → Inv X (fpins ++ pins) σ H s → FpOk X (fpins ++ pins) H S → FpOk X (fpins ++ pins) H It → Ex H0 H → s.heap.get? S = some (seqObj "list" #[vb, ub] c) → s.heap.IsListIter It l (j + 1) →
      xs[i]? = some xb → RelV xb vb → RelV kb ub → OKey sh H kb (kf i) → i ≤ j → (∀ j', j' ≤ j → lexLt (kf j') (kf i) = false ∧ (j' < i → lexLt (kf i) (kf j') = true)) →
      codeAny (model X.prog X.w) X.A (.builtin "min.loop" ⟨[.ref It, key, .ref S], []⟩) (fun r s' => match r with | .ok (.ret v) => EP X (fpins ++ pins) σ Q v s' | .ok _ => False | .error e => X.xe e s') s := by
  have hname : (toString "min" ++ toString ".loop" : String) = "min.loop" := by decide
  intro n
  induction n with
  | zero =>
    intro j i s H xb kb vb ub c hn hj I fS fI eH hS hit hxi rx rk ok hij hbest
    have hin : j + 1 = xs.length := by omega
    obtain ⟨its, rv, pl, hz⟩ := I.list (sq_of (K := X.K) (eH _ _ hl0))
    refine codeAny_builtin PySem.F.entry_min_loop ?_
    rw [Around.under_plainId PySem.F.plain_min_loop _]
    show wpAny _ X.A.in1 (seqItems? (.ref S) >>= _) _ _ _
    refine wpAny_bind (wpAny_seqItems hS rfl ?_)
    show wpAny _ X.A.in1 (tryCatch (pyNext (.ref It)) _ >>= _) _ _ _
    have hlv := rv.length
    obtain ⟨f0, f1, f2, f3, f4, f5⟩ := fI
    refine wpAny_bind (wpAny_tryCatch (wpAny_pyNext_list_end hh hit pl.isList (by simp; omega) fun h' eb => ?_))
    have I1 : Inv X (fpins ++ pins) σ H { s with heap := h' } := I.turned (t' := s.toks) (fun b o hb e => eb b o hb e) f0 f1 f3 f4 f5
    have hS' : h'.get? S = some (seqObj "list" #[vb, ub] c) := eb _ _ hSI hS
    show wpAny _ X.A.in1 (updateSeq S (fun _ => #[]) >>= _) _ _ _
    refine wpAny_bind ?_
    refine wpAny_updateSeq hS' rfl (wpAny_bind (wpAny_letGo (wpAny_pure ?_)))
    obtain ⟨g0, g1, g2, g3, g4, g5⟩ := fS
    have sb := Heap.SameBut.update h' S (Obj.mapSeq fun _ => (#[] : Array Value))
    have I2 : Inv X (fpins ++ pins) σ H { s with heap := h'.update S (Obj.mapSeq fun _ => #[]) } := I1.turned (t' := s.toks) (fun b o hb e => (sb.2 b hb).trans e) g0 g1 g3 g4 g5
    exact ⟨xb, H, I2, rx, hQ i xb H eH hxi fun j' hj' => hbest j' (by omega)⟩
  | succ n ih =>
    intro j i s H xb kb vb ub c hn hj I fS fI eH hS hit hxi rx rk ok hij hbest
    have hlt : j + 1 < xs.length := by omega
    obtain ⟨its, rv, pl, hz⟩ := I.list (sq_of (K := X.K) (eH _ _ hl0))
    obtain ⟨x, hx⟩ : ∃ x, xs[j + 1]? = some x := ⟨_, List.getElem?_eq_getElem hlt⟩
    obtain ⟨u, hu1, ru⟩ := rv.get hx
    refine codeAny_builtin PySem.F.entry_min_loop ?_
    rw [Around.under_plainId PySem.F.plain_min_loop _]
    show wpAny _ X.A.in1 (seqItems? (.ref S) >>= _) _ _ _
    refine wpAny_bind (wpAny_seqItems hS rfl ?_)
    show wpAny _ X.A.in1 (tryCatch (pyNext (.ref It)) _ >>= _) _ _ _
    obtain ⟨f0, f1, f2, f3, f4, f5⟩ := id fI
    obtain ⟨g0, g1, g2, g3, g4, g5⟩ := id fS
    refine wpAny_bind (wpAny_tryCatch (wpAny_pyNext_list_item hit pl.isList (x := u) (by simpa using hu1) fun h' hit' sb' => ?_))
    have I1 : Inv X (fpins ++ pins) σ H { s with heap := h' } := I.turned (t' := s.toks) (fun b o hb e => (sb'.2 b hb).trans e) f0 f1 f3 f4 f5
    have hS' : h'.get? S = some (seqObj "list" #[vb, ub] c) := (sb'.2 _ hSI).trans hS
    obtain ⟨oI, hoI, hoc, hod⟩ := id hit'
    -- S and It are pinned while the key is asked
    have I2 : Inv X (((S, seqObj "list" #[vb, ub] c) :: (It, oI) :: fpins) ++ pins) σ H { s with heap := h' } := I1.pins_of fun p hp => by
      rcases List.mem_append.mp hp with hp | hp
      · rcases List.mem_cons.mp hp with e | hp
        · subst e
          exact ⟨hS', g0, g1, g2, fun v e => nomatch e⟩
        rcases List.mem_cons.mp hp with e | hp
        · subst e
          exact ⟨hoI, f0, f1, f2, fun v e => by rw [hod] at e; cases e⟩
        · exact I1.pin p (List.mem_append_right _ (List.mem_append_left _ hp))
      · exact I1.pin p (List.mem_append_right _ (List.mem_append_right _ hp))
    show wpAny _ X.A.in1 (keyRun key u _ _) _ _ _
    refine (hk _ _ _ _ H (j + 1) x u _ _ I2 (fun p hp => (I1.pin p (List.mem_append_right _ (List.mem_append_left _ hp))).1) eH hx ru fun kv kV H3 s3 I3 e3 rk3 ok3 => ?_)
    have I3' : Inv X (fpins ++ pins) σ H3 s3 := I3.pins_of fun p hp => I3.pin p (List.mem_append_right _ (by
      rcases List.mem_append.mp hp with hp | hp
      · exact List.mem_append_left _ (List.mem_cons_of_mem _ (List.mem_cons_of_mem _ hp))
      · exact List.mem_append_right _ hp))
    obtain ⟨hS3, nS3, _⟩ := I3.pin (S, seqObj "list" #[vb, ub] c) (List.mem_append_right _ (List.mem_append_left _ List.mem_cons_self))
    obtain ⟨hI3, nI3, _⟩ := I3.pin (It, oI) (List.mem_append_right _ (List.mem_append_left _ (List.mem_cons_of_mem _ List.mem_cons_self)))
    have fS3 : FpOk X (fpins ++ pins) H3 S := ⟨nS3, g1, g2, g3, g4, g5⟩
    have fI3 : FpOk X (fpins ++ pins) H3 It := ⟨nI3, f1, f2, f3, f4, f5⟩
    have hit3 : s3.heap.IsListIter It l (j + 1 + 1) := ⟨oI, hI3, hoc, hod⟩
    have ok' := ok.monoT (.of e3)
    show wpAny _ X.A.in1 (tryCatch (holding [u, kv] (richCompare .Lt kv ub >>= _)) _ >>= _) _ _ _
    refine wpAny_bind (wpAny_tryCatch (wpAny_holding (wpAny_bind (okey_lt I3' hu ok3 ok' rk3 rk _ _ _ _ ?_))))
    refine wpAny_bind (wpAny_holding (wpAny_truthy_bool ?_))
    refine wpAny_bind (wpAny_letGo (wpAny_pure ?_))
    have hS3' : s3.heap.get? S = some (seqObj "list" #[vb, ub] c) := hS3
    cases hb' : lexLt (kf (j + 1)) (kf i) with
    | true =>
      have sb := Heap.SameBut.update s3.heap S (Obj.mapSeq fun _ => #[u, kv])
      obtain ⟨c2, hc2⟩ : ∃ c2, (s3.heap.update S (Obj.mapSeq fun _ => #[u, kv])).get? S = some (seqObj "list" #[u, kv] c2) := ⟨_, get?_update_seq hS3' fun _ => #[u, kv]⟩
      simp only [if_true]
      refine wpAny_bind ?_
      refine wpAny_updateSeq hS3' rfl (wpAny_bind (wpAny_letGo ?_))
      rw [hname]
      have I4 : Inv X (fpins ++ pins) σ H3 { s3 with heap := s3.heap.update S (Obj.mapSeq fun _ => #[u, kv]) } := I3'.turned (t' := s3.toks) (fun b o hb e => (sb.2 b hb).trans e) nS3 g1 g3 g4 g5
      refine wpAny_pure ⟨plainId_quiet PySem.F.plain_min_loop _, ih (j + 1) (j + 1) _ H3 x kV u kv c2 (by omega) hlt I4 fS3 fI3 (eH.trans e3) hc2 ⟨oI, (sb.2 _ (Ne.symm hSI)).trans hI3, hoc, hod⟩ hx ru rk3 ok3 (Nat.le_refl _) fun j' hj' => ?_⟩
      by_cases e : j' = j + 1
      · subst e
        exact ⟨lexLt_irr _, fun h => absurd h (Nat.lt_irrefl _)⟩
      · have hb1 := (hbest j' (by omega)).1
        have h2 : lexLt (kf (j + 1)) (kf j') = true := by
          cases h3 : lexLt (kf (j + 1)) (kf j') with
          | true => rfl
          | false =>
            have := lexLe_trans hb1 h3
            rw [hb'] at this
            cases this
        exact ⟨lexLe_of_lt h2, fun _ => h2⟩
    | false =>
      simp only [Bool.false_eq_true, if_false]
      refine wpAny_bind (wpAny_letGo ?_)
      rw [hname]
      refine wpAny_pure ⟨plainId_quiet PySem.F.plain_min_loop _, ih (j + 1) i _ H3 xb kb vb ub c (by omega) hlt I3' fS3 fI3 (eH.trans e3) hS3' hit3 hxi rx rk ok' (by omega) fun j' hj' => ?_⟩
      by_cases e : j' = j + 1
      · subst e
        exact ⟨hb', fun h => absurd h (by omega)⟩
      · exact hbest j' (by omega)
end
section
variable {X : Cx} {pins fpins : List (Addr × Obj)} {σ : L2.St} {sh : Bool} {kf : Nat → List Int} {xs : List V} {l : Addr} {kO : Option Value} {H : Hp} {Q : VK} {s : Shared}
theorem min_call {kw : List (Str × Value)} (hh : X.A.in1.handled = none) (hu : X.A.in1.units + 2 < cLine) (hk : KeyOk X σ sh kf xs (kO.getD .none) fpins H) (hl0 : H l = some (.lst xs)) (hne : 0 < xs.length) (ha : argsOk "min" ⟨[.ref l], kw⟩)
    (hb : Builtin.Builtins.bindParams "min" ["key", "default"] 0 ⟨[], kw⟩ = pure [kO, none]) (I : Inv X (fpins ++ pins) σ H s)
    (hQ : ∀ j x H', Ex H H' → xs[j]? = some x → Best xs.length kf j → Q x H') : wpAny (model X.prog X.w) X.A (call (.builtin "min") [.ref l] kw) (EP X (fpins ++ pins) σ Q) X.xe s := by
  have hname : (toString "min" ++ toString ".loop" : String) = "min.loop" := by decide
  refine kmk_tree PySem.F.kind_min PySem.F.plain_min PySem.F.entry_min ha ?_
  show wpAny _ X.A.in1 (Builtin.Builtins.bindParams "min" ["key", "default"] 0 ⟨[], kw⟩ >>= _) _ _ s
  refine wpAny_bind (wpAny_of_eq hb ?_)
  refine wpAny_bind (wpAny_pure ?_)
  obtain ⟨its, rv, pl, hz⟩ := I.list (sq_of (K := X.K) hl0)
  refine wpAny_bind (wpAny_pyIter_list pl.isList ?_)
  refine wpAny_bind (wpAny_newList ?_ (Nat.zero_le _))
  rw [hname]
  refine wpAny_pure ⟨plainId_quiet PySem.F.plain_min_loop _, ?_⟩
  have hS : (s.heap.push { cls := .type "list_iterator", data := .fields #[.ref l, .int 0 0] }).objs.size = s.heap.objs.size + 1 := Heap.size_push ..
  rw [hS]
  have hSI : s.heap.objs.size + 1 ≠ s.heap.objs.size := Nat.ne_of_gt (Nat.lt_succ_self _)
  have gI : ((s.heap.push { cls := .type "list_iterator", data := .fields #[.ref l, .int 0 0] }).push (seqObj "list" #[] 0)).get? s.heap.objs.size = some { cls := .type "list_iterator", data := .fields #[.ref l, .int 0 0] } :=
    Heap.get?_push_of_some _ (Heap.get?_push_size _ rfl)
  have gS : ((s.heap.push { cls := .type "list_iterator", data := .fields #[.ref l, .int 0 0] }).push (seqObj "list" #[] 0)).get? (s.heap.objs.size + 1) = some (seqObj "list" #[] 0) := by
    rw [← hS]
    exact Heap.get?_push_size _ rfl
  have fI : FpOk X (fpins ++ pins) H s.heap.objs.size := I.fpOk (Nat.le_refl _) (I.hok.fresh (Nat.le_refl _))
  have fS : FpOk X (fpins ++ pins) H (s.heap.objs.size + 1) := I.fpOk (Nat.le_succ _) (I.hok.fresh (Nat.le_succ _))
  have I0 : Inv X (fpins ++ pins) σ H { s with heap := (s.heap.push { cls := .type "list_iterator", data := .fields #[.ref l, .int 0 0] }).push (seqObj "list" #[] 0) } := I.kept (t' := s.toks) fun b o e => Heap.get?_push_of_some _ (Heap.get?_push_of_some _ e)
  show codeAny (model X.prog X.w) X.A (.builtin "min.loop" ⟨[.ref s.heap.objs.size, kO.getD .none, .ref (s.heap.objs.size + 1)], []⟩) _ { s with heap := (s.heap.push { cls := .type "list_iterator", data := .fields #[.ref l, .int 0 0] }).push (seqObj "list" #[] 0) }
  generalize (s.heap.push { cls := .type "list_iterator", data := .fields #[.ref l, .int 0 0] }).push (seqObj "list" #[] 0) = h0 at gI gS I0
  clear I rv pl hz its hS
  generalize s.heap.objs.size + 1 = S at hSI gS fS
  generalize s.heap.objs.size = It at hSI gI fI
  obtain ⟨its, rv, pl, hz⟩ := I0.list (sq_of (K := X.K) hl0)
  obtain ⟨x, hx⟩ : ∃ x, xs[0]? = some x := ⟨_, List.getElem?_eq_getElem hne⟩
  obtain ⟨u, hu1, ru⟩ := rv.get hx
  refine codeAny_builtin PySem.F.entry_min_loop ?_
  rw [Around.under_plainId PySem.F.plain_min_loop _]
  show wpAny _ X.A.in1 (seqItems? (.ref S) >>= _) _ _ _
  refine wpAny_bind (wpAny_seqItems gS rfl ?_)
  show wpAny _ X.A.in1 (tryCatch (pyNext (.ref It)) _ >>= _) _ _ _
  obtain ⟨f0, f1, f2, f3, f4, f5⟩ := id fI
  obtain ⟨g0, g1, g2, g3, g4, g5⟩ := id fS
  refine wpAny_bind (wpAny_tryCatch (wpAny_pyNext_list_item (i := 0) ⟨_, gI, rfl, rfl⟩ pl.isList (x := u) (by simpa using hu1) fun h' hit' sb' => ?_))
  have I1 : Inv X (fpins ++ pins) σ H { s with heap := h' } := I0.turned (t' := s.toks) (fun b o hb e => (sb'.2 b hb).trans e) f0 f1 f3 f4 f5
  have hS' : h'.get? S = some (seqObj "list" #[] 0) := (sb'.2 _ hSI).trans gS
  obtain ⟨oI, hoI, hoc, hod⟩ := id hit'
  have I2 : Inv X (((S, seqObj "list" #[] 0) :: (It, oI) :: fpins) ++ pins) σ H { s with heap := h' } := I1.pins_of fun p hp => by
    rcases List.mem_append.mp hp with hp | hp
    · rcases List.mem_cons.mp hp with e | hp
      · subst e
        exact ⟨hS', g0, g1, g2, fun v e => nomatch e⟩
      rcases List.mem_cons.mp hp with e | hp
      · subst e
        exact ⟨hoI, f0, f1, f2, fun v e => by rw [hod] at e; cases e⟩
      · exact I1.pin p (List.mem_append_right _ (List.mem_append_left _ hp))
    · exact I1.pin p (List.mem_append_right _ (List.mem_append_right _ hp))
  show wpAny _ X.A.in1 (keyRun (kO.getD .none) u _ _) _ _ _
  refine (hk _ _ _ _ H 0 x u _ _ I2 (fun p hp => (I1.pin p (List.mem_append_right _ (List.mem_append_left _ hp))).1) (Ex.refl H) hx ru fun kv kV H3 s3 I3 e3 rk3 ok3 => ?_)
  have I3' : Inv X (fpins ++ pins) σ H3 s3 := I3.pins_of fun p hp => I3.pin p (List.mem_append_right _ (by
    rcases List.mem_append.mp hp with hp | hp
    · exact List.mem_append_left _ (List.mem_cons_of_mem _ (List.mem_cons_of_mem _ hp))
    · exact List.mem_append_right _ hp))
  obtain ⟨hS3, nS3, _⟩ := I3.pin (S, seqObj "list" #[] 0) (List.mem_append_right _ (List.mem_append_left _ List.mem_cons_self))
  obtain ⟨hI3, nI3, _⟩ := I3.pin (It, oI) (List.mem_append_right _ (List.mem_append_left _ (List.mem_cons_of_mem _ List.mem_cons_self)))
  have fS3 : FpOk X (fpins ++ pins) H3 S := ⟨nS3, g1, g2, g3, g4, g5⟩
  have fI3 : FpOk X (fpins ++ pins) H3 It := ⟨nI3, f1, f2, f3, f4, f5⟩
  have hS3' : s3.heap.get? S = some (seqObj "list" #[] 0) := hS3
  have sb := Heap.SameBut.update s3.heap S (Obj.mapSeq fun _ => #[u, kv])
  obtain ⟨c2, hc2⟩ : ∃ c2, (s3.heap.update S (Obj.mapSeq fun _ => #[u, kv])).get? S = some (seqObj "list" #[u, kv] c2) := ⟨_, get?_update_seq hS3' fun _ => #[u, kv]⟩
  show wpAny _ X.A.in1 (updateSeq S (fun _ => #[u, kv]) >>= _) _ _ _
  refine wpAny_bind ?_
  refine wpAny_updateSeq hS3' rfl ?_
  rw [hname]
  have I4 : Inv X (fpins ++ pins) σ H3 { s3 with heap := s3.heap.update S (Obj.mapSeq fun _ => #[u, kv]) } := I3'.turned (t' := s3.toks) (fun b o hb e => (sb.2 b hb).trans e) nS3 g1 g3 g4 g5
  exact wpAny_pure ⟨plainId_quiet PySem.F.plain_min_loop _, min_loop hh hu hk hl0 hSI hQ _ 0 0 _ H3 x kV u kv c2 rfl (by omega) I4 fS3 fI3 e3 hc2 ⟨oI, (sb.2 _ (Ne.symm hSI)).trans hI3, hoc, hod⟩ hx ru rk3 ok3 (Nat.le_refl _) fun j' hj' => by
    have e : j' = 0 := by omega
    subst e
    exact ⟨lexLt_irr _, fun h => absurd h (Nat.lt_irrefl _)⟩⟩
/-- min(xs) of a list of keys -/
def rMinK (sh : Bool) : List V → Hp → VK → Prop := fun vs H Q => ∃ (l : Addr) (xs : List V) (kf : Nat → List Int), vs = [V.ref l] ∧ H l = some (.lst xs) ∧ 0 < xs.length ∧ (∀ j x, xs[j]? = some x → OKey sh H x (kf j)) ∧ ∀ j x, xs[j]? = some x → Best xs.length kf j → Q x H
theorem cr_minK {sh : Bool} (hc : X.calm = true) (hu : X.A.units + 3 < cLine) : CallR X (.builtin "min") (fun vs H Q => ∃ (l : Addr) (xs : List V) (kf : Nat → List Int), vs = [V.ref l] ∧ H l = some (.lst xs) ∧ 0 < xs.length ∧ (∀ j x, xs[j]? = some x → OKey sh H x (kf j)) ∧ ∀ j x H', Ex H H' → xs[j]? = some x → Best xs.length kf j → Q x H') := by
  intro pins s σ H vs us Q I r h
  obtain ⟨l, xs, kf, rfl, hl, hne, hkey, q⟩ := h
  rw [Vals.ref1 r]
  have I0 : Inv X ([] ++ pins) σ H s := I
  have hk : KeyOk X σ sh kf xs .none [] H := fun hd k pins s H' j x u R E I _ e hx rx q => by
    show wpAny _ X.A.in1 (pure u >>= k) R E s
    exact wpAny_bind (wpAny_pure (q u x H' s I (Ex.refl _) rx ((hkey j x hx).monoT (.of e))))
  exact min_call (kO := none) (kw := []) (fpins := []) (pins := pins) (I.ok.hd hc) (show X.A.units + 1 + 2 < cLine by omega) hk hl hne (by unfold argsOk; kernel_rfl) (by rfl) I0 q
end
/-! ### min(e, key=lambda a: body) -/
def tMinKey (T : List (Addr × Str)) (sh : Bool) (i : Nat) (tl tb : TE) : TE := fun σ H Q => tl σ H fun x H1 => ∃ (l : Addr) (xs : List V), x = .ref l ∧ H1 l = some (.lst xs) ∧ 0 < xs.length ∧ Tabs T H1 ∧ ∀ H2, ExtN H1 H2 → Tabs T H2 →
  ∃ kf : Nat → List Int, (∀ j x, xs[j]? = some x → EvR tb (σ.set i (some x)) H2 (fun v H' => OKey sh H' v (kf j))) ∧ ∀ j x H3, Ex H2 H3 → xs[j]? = some x → Best xs.length kf j → Q x H3
theorem pe_minKey {X : Cx} {T : List (Addr × Str)} {sh : Bool} {c P : Addr} {k i : Nat} {a : Str} {e : Expr} {params : Arguments} {body : Expr} {scope : Scope} {tl tb : TE} {p lpos kpos pos : Pos} (hg : Gl X "min") (hm : X.mg "min" = none) (hpa : PA X [e] (tCons tl tNil))
    (TB : TabB X.base X.mg c P) (hcode : X.env.code = .ref c) (hmT : (P, X.env.qual ++ "<lambda>") ∈ T) (hu : ∀ p ∈ T, p.1 = P → p.2 = X.env.qual ++ "<lambda>") (hr : Room (k + 4) X.A) (hcalm : X.calm = true) (L : LamS1 X.env.scope scope a) (hN : X.N.Nodup) (hi : X.N[i]? = some a) (hdef : defaultsOf params X.env = ([], []))
    (hbind : ∀ (q : Str) (cl : List (Str × Addr)) (pm cv ctv u : Value), bindArgs (PySem.W.kla_fn "<lambda>" q params body scope cl pm cv ctv) ⟨[u], []⟩ = pure [(a, u)])
    (hbody : ∀ (A : Around) (outer : List Env) (s : Shared) (H : Hp) (f c' : Addr), Room k (A.deeper (lamEnv X scope s.heap.objs.size f c')) → PE (lamCx X A outer s H C8.E0 scope f c') body tb)
    (hst : backTo pos (starEach [e] X.env) = (false, eval e X.env) :: backTo pos (starEach [] X.env) := by rfl) (hpl : (backTo pos (starEach [e] X.env)).any (·.1) = false := by rfl)
    (hall : (backToKw pos (keywordEach [⟨some "key", .Lambda params body scope lpos, kpos⟩] X.env)).all (·.1.isSome) = true := by rfl) (hnone : (backToKw pos (keywordEach [⟨some "key", .Lambda params body scope lpos, kpos⟩] X.env)).any (·.1.isNone) = false := by rfl)
    (hks : (backToKw pos (keywordEach [⟨some "key", .Lambda params body scope lpos, kpos⟩] X.env)).filterMap (·.1) = [Str.ofString "key"] := by rfl) :
    PE X (.Call (.Name "min" p) [e] [⟨some "key", .Lambda params body scope lpos, kpos⟩] pos) (tMinKey T sh i tl tb) := by
  refine ⟨fun pins s σ H Q I h => ?_⟩
  refine wpAny_Call_Name_kw (ld_blt I hg hm PyProof.Rows.boot_min ?_ (by decide) (by decide))
  refine PyProof.Rows.callWith_kw (thn (hpa.run pos pins s σ H (fun vs H1 => match vs with
    | [x] => ∃ (l : Addr) (xs : List V), x = .ref l ∧ H1 l = some (.lst xs) ∧ 0 < xs.length ∧ Tabs T H1 ∧ ∀ H2, ExtN H1 H2 → Tabs T H2 →
      ∃ kf : Nat → List Int, (∀ j x, xs[j]? = some x → EvR tb (σ.set i (some x)) H2 (fun v H' => OKey sh H' v (kf j))) ∧ ∀ j x H3, Ex H2 H3 → xs[j]? = some x → Best xs.length kf j → Q x H3
    | _ => False) I h) fun us s1 ⟨vs, H1, I1, r1, q0⟩ => ?_) hst hpl hall hnone
  obtain ⟨l, xs, rfl, hl, hne, hT, q1⟩ : ∃ (l : Addr) (xs : List V), vs = [V.ref l] ∧ H1 l = some (.lst xs) ∧ 0 < xs.length ∧ Tabs T H1 ∧ ∀ H2, ExtN H1 H2 → Tabs T H2 →
      ∃ kf : Nat → List Int, (∀ j x, xs[j]? = some x → EvR tb (σ.set i (some x)) H2 (fun v H' => OKey sh H' v (kf j))) ∧ ∀ j x H3, Ex H2 H3 → xs[j]? = some x → Best xs.length kf j → Q x H3 := by
    match vs, q0 with
    | [x], ⟨l, xs, e, r⟩ => exact ⟨l, xs, by rw [e], r⟩
  have e1 := Vals.ref1 r1
  subst e1
  show wpAny _ _ (evalAll ((do let v ← eval (.Lambda params body scope lpos) X.env; standAt pos; pure v) :: [])) _ _ s1
  refine wpAny_evalAll_cons (wpAny_bind (lam_make2 I1 TB hcode hmT hu hT hdef (L.has I.ok) fun f c' pm' ctv H2 s2 I2 eN T2 hf hfn hfr hco => wpAny_bind (wpAny_standAt (wpAny_pure (wpAny_evalAll_nil ?_)))))
  rw [hks]
  obtain ⟨kf, hk, q2⟩ := q1 H2 eN T2
  have hl2 := eN _ _ hl (fun ps z => nomatch z)
  have I3 : Inv X ([(f, PySem.W.kla_obj "<lambda>" (X.env.qual ++ "<lambda>") params body scope (cloFrom X.env.cells scope.names []) pm' c' ctv)] ++ pins) σ H2 s2 := I2.pins_of fun z hz => by
    rcases List.mem_append.mp hz with hz | hz
    · have e := List.mem_singleton.mp hz
      subst e
      refine ⟨hf, hfn, fun e => ?_, fun h => hfr (fs_sub I2.ok _ h), fun v e => nomatch e⟩
      obtain ⟨m, ⟨oL, es, ep, hoL, hd, _⟩, _⟩ := I2.loc
      rw [show f = X.env.locals from e, hoL] at hf
      cases hf
      cases hd
    · exact I2.pin z (List.mem_append_right _ hz)
  have hk2 : KeyOk X σ sh kf xs (.ref f) [(f, PySem.W.kla_obj "<lambda>" (X.env.qual ++ "<lambda>") params body scope (cloFrom X.env.cells scope.names []) pm' c' ctv)] H2 := fun hd kk pins' s' H' j x u R E I' hfp e hx rx q => by
    show wpAny _ X.A.in1 (tryCatch (holding [u] (call (.ref f) [u])) hd >>= kk) R E s'
    refine wpAny_bind (wpAny_tryCatch (wpAny_holding (wpAny_mono (lam_call1 (EE := fun _ _ => False) (Q := fun v H'' => Ex H' H'' ∧ OKey sh H'' v (kf j)) (k := k) I' L hN hi (I'.ok.hd hcalm) (hfp _ List.mem_cons_self) (e _ _ hco) (hbind _ _ _ _ _ _) (hr.in1.mono (by omega)) (fun A outer s H h => hbody A outer s H f c' h) rx (hk j x hx H' e _ fun v H'' e2 r => ⟨e2, r⟩)) (fun kv s'' he => ?_) fun _ _ hF => hF.elim)))
    obtain ⟨kV, H'', I'', rv, e2, ok⟩ := he
    exact q kv kV H'' s'' I'' e2 rv ok
  have z := min_call (kO := some (.ref f)) (kw := [(Str.ofString "key", .ref f)]) (I3.ok.hd hcalm) (by have := hr.units; show X.A.units + 1 + 2 < cLine; omega) hk2 hl2 hne (kmk_min_key _ _) (by rfl) I3 q2
  exact wpAny_mono z (fun v s' ⟨w', H', I', r, q⟩ => ⟨w', H', I'.pins_of (fun z hz => I'.pin z (List.mem_append_right _ (List.mem_append_right _ hz))), r, q⟩) fun _ _ x => x
end K51
set_option Elab.async false
set_option linter.all false
set_option maxRecDepth 100000
set_option maxHeartbeats 4000000
namespace K51
open PySem PySem.Spec PyProof.Rows L2 Evl LamX
/-! ### == [] of data -/
theorem lay_all : ∀ ds : List PyData, (∀ d ∈ ds, d.canLay0 = true) → PyData.canLayAll0 ds = true
  | [], _ => by simp [PyData.canLayAll0]
  | d :: ds, h => by
    simp only [PyData.canLayAll0, Bool.and_eq_true]
    exact ⟨h d List.mem_cons_self, lay_all ds fun x hx => h x (List.mem_cons_of_mem _ hx)⟩
theorem dep_all (n : Nat) : ∀ ds : List PyData, (∀ d ∈ ds, d.depth ≤ n) → PyData.depthAll ds ≤ n
  | [], _ => by simp [PyData.depthAll]
  | d :: ds, h => by
    simp only [PyData.depthAll]
    exact Nat.max_le.mpr ⟨h d List.mem_cons_self, dep_all n ds fun x hx => h x (List.mem_cons_of_mem _ hx)⟩
theorem shaped_list {ds : List PyData} (h : ∀ d ∈ ds, d.canLay0 = true ∧ d.depth ≤ 60) : SeqAt.shaped (.list ds) = true := by
  have h1 : (PyData.list ds).canLay0 = true := by
    simp only [PyData.canLay0]
    exact lay_all ds fun d hd => (h d hd).1
  have h2 : (PyData.list ds).depth ≤ 64 := by
    simp only [PyData.depth]
    exact Nat.le_trans (Nat.succ_le_succ (dep_all 60 ds fun d hd => (h d hd).2)) (by decide)
  unfold SeqAt.shaped
  rw [h1, decide_eq_true h2]
  rfl
theorem dpAll_of {K : PySem.W.Frag} {H : Hp} {α : Type} {f : α → PyData} {vs : List V} {xs : List α} (h : Paired (fun v x => Dp K H v (f x)) vs xs) : DpAll K H vs (xs.map f) := by
  induction h with
  | nil => exact .nil
  | cons q t ih => exact .cons q ih
theorem eqv_nil (ds : List PyData) : PyData.eqv (.list ds) (.list []) = ds.isEmpty := by
  cases ds <;> rfl
/-- xs == [] -/
theorem ev_eqNil {K : PySem.W.Frag} {σ : L2.St} {H : Hp} {ta : TE} {a : Addr} {vs : List V} {ds : List PyData} (h : Ev ta σ H (.ref a)) (ha : H a = some (.lst vs)) (hd : ∀ H', Ex H H' → DpAll K H' vs ds) (hs : ∀ d ∈ ds, d.canLay0 = true ∧ d.depth ≤ 60) : Ev (tOp (rEqD K) ta (tLst tNil)) σ H (.bl ds.isEmpty) :=
  ev_opL h (el_lst ea_nil (by decide)) fun p H1 hp e1 => rv_val fun H2 e2 Q q => ⟨.list ds, .list [], .lst (sq_of ((e1.trans e2) _ _ ha)) (hd H2 (e1.trans e2)), .lst (sq_of (e2 _ _ hp)) .nil, shaped_list hs, by rfl, by rw [eqv_nil]; exact q⟩
theorem nodeD_ok (x : Nd) : (nodeD x).canLay0 = true ∧ (nodeD x).depth ≤ 60 := ⟨by rfl, by simp [nodeD, PyData.depthAll, PyData.depth]⟩
section
variable {T : List (Addr × Str)} {sh : Bool} {i n : Nat} {tl tb : TE} {R : V → Hp → Prop} {σ : L2.St} {H : Hp} {D : Ends} {tz : TS} {Q : VK}
theorem v_minKey (h : EvR tl σ H R) (k : ∀ v H1, Ex H H1 → R v H1 → ∃ (l : Addr) (xs : List V), v = .ref l ∧ H1 l = some (.lst xs) ∧ 0 < xs.length ∧ Tabs T H1 ∧ ∀ H2, ExtN H1 H2 → Tabs T H2 →
    ∃ kf : Nat → List Int, (∀ j x, xs[j]? = some x → EvR tb (σ.set i (some x)) H2 (fun v H' => OKey sh H' v (kf j))) ∧ ∀ j x H3, Ex H2 H3 → xs[j]? = some x → Best xs.length kf j → Q x H3) : tMinKey T sh i tl tb σ H Q := h H (Ex.refl H) _ fun v H1 e r => k v H1 e r
theorem q_minKey (h : EvR tl σ H R) (k : ∀ v H1, Ex H H1 → R v H1 → ∃ (l : Addr) (xs : List V), v = .ref l ∧ H1 l = some (.lst xs) ∧ 0 < xs.length ∧ Tabs T H1 ∧ ∀ H2, ExtN H1 H2 → Tabs T H2 →
    ∃ kf : Nat → List Int, (∀ j x, xs[j]? = some x → EvR tb (σ.set i (some x)) H2 (fun v H' => OKey sh H' v (kf j))) ∧ ∀ j x H3, Ex H2 H3 → xs[j]? = some x → Best xs.length kf j → tz D (σ.set n (some x)) H3) : tSeq (tAsg (tMinKey T sh i tl tb) (gName n)) tz D σ H := v_minKey h k
end
/-! ### a def whose code object is known -/
def DefAtC (K : PySem.W.Frag) (mg : Str → Option Value) (gx x qual : Str) (st : Stmt) (c : Addr) : Prop := ∃ f fd, FunD K x qual (defArgs st) (defBody st) (defScope st) [] [] f fd ∧ mg gx = some (.ref f) ∧ fd.code = .ref c
section
variable {P : Program} {w : World} {K : PySem.W.Frag} {mg : Str → Option Value} {base : Heap} {gx x qual : Str} {st : Stmt} {N ps : List Str} {k : Nat} {sp : Sp} {c : Addr}
theorem cal_ofC (D : DefAtC K mg gx x qual st c) (S : FnScope N ps (defScope st))
    (hbind : ∀ (kV doc pm : Value) (an : Option Addr) (cdv ct : Value) (us : List Value), us.length = ps.length → bindArgs (PySem.W.fnOf x qual (defArgs st) (defBody st) (defScope st) .none kV doc pm an cdv ct) ⟨us, []⟩ = pure (ps.zip us))
    (len : ∀ vs H Q E, sp vs H Q E → vs.length = ps.length)
    (hbody : ∀ (f : Addr) (A : Around) (outer : List Env) (s : Shared) (H : Hp) (vs : List V) (Q : VK) (E : XK), Room k (A.deeper (envOfC qual (defScope st) s.heap.objs.size f (.ref c))) → sp vs H Q E →
      ∃ t, PSs (cxOf CX0 P w K mg base N qual (defScope st) f (.ref c) A outer s H E).nox (defBody st) t ∧ t { nx := fun _ H' => Q .non H', rt := Q } (start N vs) H) : Cal P w K mg base gx ps (k + 1) sp := by
  obtain ⟨f, fd, F, hm, hc⟩ := D
  obtain ⟨oc, od, dV, kV, doc, pm, an, cdv, ct, osl, rfl, lk, hcd, d1, d2⟩ := id F.ex
  have e : cdv = .ref c := hc
  subst e
  refine ⟨f, _, fn_of lk hcd S len fun A outer s H vs Q E hr h => ?_, hm, F.kp, F.bindsN hbind⟩
  obtain ⟨t, a, b⟩ := hbody f A outer s H vs Q E hr h
  exact ⟨t, PSs.nox a, b⟩
end
/-! ### a comprehension over the keys -/
abbrev NodeR (aF : Addr) : Hp → V → Nd → Prop := fun H v x => NdAt aF H v x
theorem nodeR_mono {aF : Addr} : RMono (NodeR aF) := fun H H' v y e h => h.imp (fun h => h.monoI e) id
section
variable {α : Type} {P : Program} {w : World} {σ : L2.St} {H : Hp} {te tl : TE} {t : TT} {g : TG} {vs : List Nat}
theorem er_lcFd {R : Hp → V → α → Prop} (mono : RMono R) {d : Addr} {o : Obj} {es : Es} (out : Nat → List α) (h0 : out 0 = []) (hb : ∀ i, (out i).length < 1000000) (hd : H d = some (.frz o (FdO P w d es))) (h : Ev tl σ H (.ref d))
    (ht : ∀ i k b v H1, Ex H H1 → es[i]? = some (k, b, v) → TurnR R g t te vs σ (.ref b) H1 (out i) (out (i + 1))) : EvR (tLc (iFd P w tl) g t te vs) σ H (fun v H' => LstR R H' v (out es.length)) := fun H0 e Q q =>
  h H0 e _ fun H1 e1 => ⟨d, o, es, rfl, e1 _ _ (e _ _ hd), fun Dl hD => by
    have hd1 := e1 _ _ (e _ _ hd)
    refine ⟨fun i m H' => m = es.length - i ∧ i ≤ es.length ∧ CwR R H1 out Dl i H', ⟨es.length, by simp, Nat.zero_le _, hD, Ex.new hD, [], upd_same, by rw [h0]; exact .nil⟩, ?_⟩
    rintro i m H' ⟨rfl, hi, p⟩
    by_cases hlt : i < es.length
    · refine .inr ⟨⟨p.2.1 _ _ hd1, hlt⟩, CwR R H1 out Dl (i + 1), fun H'' p' => ⟨es.length - (i + 1), by omega, rfl, hlt, p'⟩, fun x H'' y => ?_⟩
      obtain ⟨rfl, k, b, v, hk, rfl⟩ := y
      exact cwr_turn mono p (hb i) fun H2 e2 => ht i k b v H2 ((e.trans e1).trans e2) hk
    · have e3 : i = es.length := by omega
      refine .inl ⟨⟨p.2.1 _ _ hd1, by omega⟩, ?_⟩
      rw [e3] at p
      obtain ⟨p1, p2, acc, p3, p4⟩ := p
      exact q _ H' (e1.trans p2) ⟨Dl, acc, rfl, p3, p4⟩⟩
end
/-! ### told_nodes -/
def endsOf (r : Row) (fd : Fd) : List Nd := nodesK (keysOf fd) ((r.length : Int) - 1)
structure Told (r : Row) (ru : Ru) (fd : Fd) (base : Nd) (many : Int) (least : Nd) : Prop where
  b1 : base ∈ endsOf r fd
  b2 : ∀ y ∈ endsOf r fd, lexLt (key (costAt fd y) ++ [y.n]) (key (costAt fd base) ++ [base.n]) = false
  m1 : ∃ y ∈ endsOf r fd, y.n = many
  m2 : ∀ y ∈ endsOf r fd, lexLt [((y.n - (base.n + ru.loose)).natAbs : Int), y.n] [((many - (base.n + ru.loose)).natAbs : Int), many] = false
  l1 : least ∈ endsOf r fd ∧ least.n = many
  l2 : ∀ y ∈ endsOf r fd, y.n = many → clt (costAt fd y) (costAt fd least) = false
/-- a promise that lets the tables of code objects grow -/
def spN (T : List (Addr × Str)) (f : List V → Hp → (V → Hp → Prop) → Prop) : Sp := fun vs H Q _ => ∃ R, f vs H R ∧ Tabs T H ∧ ∀ v H2, ExtN H H2 → Tabs T H2 → R v H2 → Q v H2
theorem ExtN.ofEx {H H' : Hp} (e : Ex H H') : ExtN H H' := fun b o h _ => e b o h
theorem ExT.ofN {H H' : Hp} (e : ExtN H H') : ExT H H' := fun a xs h => e a _ h fun ps z => nomatch z
section
variable {P : Program} {w : World} {K : PySem.W.Frag} {mg : Str → Option Value} {base : Heap} {cG cR cL aF cC Pt : Addr}
abbrev Tt (Pt : Addr) : List (Addr × Str) := [(Pt, ("told_nodes" : Str) ++ ".<locals>." ++ "<lambda>")]
theorem tt_u {Pt : Addr} {q : Str} (e : q = ("told_nodes" : Str) ++ ".<locals>." ++ "<lambda>") : ∀ p ∈ Tt Pt, p.1 = Pt → p.2 = q := fun p hp _ => by
  rw [List.mem_singleton.mp hp, e]
abbrev st_told_nodes : Stmt := top 63
def nm_told_nodes : List Str := ["row", "rules", "found", "ends", "base", "wished", "many", "node", "lines", "end"]
theorem sc_told_nodes : FnScope nm_told_nodes ["row", "rules", "found"] (defScope st_told_nodes) := ⟨rfl, rfl, rfl, by decide +kernel, rfl, by decide +kernel, by decide +kernel⟩
def sp_told (P : Program) (w : World) (cG cR aF Pt : Addr) : Sp := spN (Tt Pt) fun vs H R => ∃ (x : V) (b f : Addr) (es : Es) (r : Row) (u : Ru) (fd : Fd), vs = [x, .ref b, .ref f] ∧ RowAt cG H x r ∧ RulesAt cR H (.ref b) u ∧ H f = some (FdO P w f es) ∧ FdR aF H es fd ∧ FdOk r u.hyp (keysOf fd) ∧ r.length ≤ 12 ∧
  R = fun v H2 => (endsOf r fd = [] ∧ v = .non) ∨ ∃ base many least v0 v1, Told r u fd base many least ∧ TupAt H2 v [v0, v1] ∧ NdAt aF H2 v1 least
theorem ok_told_nodes (T : Tx K mg cG cR cL aF) (KF : KFst K aF) (RR : RC K cR) (TB : TabB base mg cC Pt) (D : DefAtC K mg "told_nodes" "told_nodes" "told_nodes" st_told_nodes cC) : Cal P w K mg base "told_nodes" ["row", "rules", "found"] 5 (sp_told P w cG cR aF Pt) := by
  refine cal_ofC D sc_told_nodes (fun _ _ _ _ _ _ us hl => match us, hl with | [_, _, _], _ => rfl) (fun vs H Q E h => ?_) (fun f A outer s H vs Q E hr h => ?_)
  · obtain ⟨R, ⟨x, b, f, es, r, u, fd, rfl, _⟩, _⟩ := h
    rfl
  · obtain ⟨R, ⟨x, b, f, es, r, u, fd, rfl, hx, hu, hf, hfr, hok, hlen, rfl⟩, hT, k⟩ := h
    refine ⟨_, (pss_cons (ps_lock (ps_setLc (i := 3) (own := [("node", 7)]) rfl sc_told_nodes.nd rfl rfl (sw_true rfl rfl rfl (by decide +kernel)) (pi_fdkeysP (P := P) (w := w) rfl rfl (pv 2)) (blkOk_by (own := [("node", 7)]) (N := nm_told_nodes) (sc := defScope st_told_nodes) (by decide +kernel)) (fun _ _ _ _ _ => (pg_name (i := 7) sc_told_nodes.nd rfl (Or.inl rfl))) (fun _ _ _ _ _ => (pts_one (pt_cmpR op_eq (pe_ix (ix_tupK (K := K) rfl) (pv 7) pe_int (fun _ _ => rfl)) (pe_op op_sub (pe_callB (call_len_seqK (K := K) rfl) (by rfl) T.len_ (by decide +kernel) (pa_cons (pv 0) pa_nil)) pe_int) (nomark _)))) (fun _ _ _ _ _ => (pv 7))))
      (pss_cons (ps_if (pt_cmpR (op_eqD hr.units) (pv 3) (pe_lst pa_nil) (nomark _)) (pss_one (ps_ret pe_non)) pss_nil)
      (pss_cons (ps_set (i := 4) sc_told_nodes.nd rfl (Or.inl rfl) (pe_minKey (T := Tt Pt) (sh := true) (i := 7) (a := "node") (k := 0) rfl T.min_ (pa_cons (pv 3) pa_nil) TB rfl List.mem_cons_self (tt_u rfl) hr rfl (lamS1_by (by rfl)) sc_told_nodes.nd rfl rfl (fun _ _ _ _ _ _ => rfl) (fun A outer s H f c1 hl => (pe_tup (pa_cons (pe_ix (ix_tupK (K := K) rfl) (pe_fdgetP (P := P) (w := w) (K := K) rfl rfl rfl hl.u1 (pv 2) (pv 7) (fun _ _ => rfl)) pe_int (fun _ _ => rfl)) (pa_cons (pe_ix (ix_tupK (K := K) rfl) (pv 7) pe_int (fun _ _ => rfl)) pa_nil))))))
      (pss_cons (ps_set (i := 5) sc_told_nodes.nd rfl (Or.inr rfl) (pe_op op_add (pe_ix ix_tup (pv 4) pe_int (fun _ _ => rfl)) (pe_fld (pv 1) rfl)))
      (pss_cons (ps_set (i := 6) sc_told_nodes.nd rfl (Or.inr rfl) (pe_minKey (T := Tt Pt) (sh := false) (i := 8) (a := "lines") (k := 0) rfl T.min_ (pa_cons (pe_lc (own := [("node", 7)]) rfl sc_told_nodes.nd (pi_list (pv 3)) (blkOk_by (own := [("node", 7)]) (N := nm_told_nodes) (sc := defScope st_told_nodes) (by decide +kernel)) (fun _ _ _ _ _ => (pg_name (i := 7) sc_told_nodes.nd rfl (Or.inl rfl))) (fun _ _ _ _ _ => pts_nil) (fun _ _ _ _ _ => (pe_ix (ix_tupK (K := K) rfl) (pv 7) pe_int (fun _ _ => rfl)))) pa_nil) TB rfl List.mem_cons_self (tt_u rfl) hr rfl (lamS1_by (by rfl)) sc_told_nodes.nd rfl rfl (fun _ _ _ _ _ _ => rfl) (fun A outer s H f c1 hl => (pe_tup (pa_cons (pe_callB call_abs (by rfl) T.abs_ (by decide +kernel) (pa_cons (pe_op op_sub (pv 8) (pv 5)) pa_nil)) (pa_cons (pv 8) pa_nil))))))
      (pss_one (ps_ret (pe_tup (pa_cons (pv 4) (pa_cons (pe_minKey (T := Tt Pt) (sh := false) (i := 9) (a := "end") (k := 0) rfl T.min_ (pa_cons (pe_lc (own := [("node", 7)]) rfl sc_told_nodes.nd (pi_list (pv 3)) (blkOk_by (own := [("node", 7)]) (N := nm_told_nodes) (sc := defScope st_told_nodes) (by decide +kernel)) (fun _ _ _ _ _ => (pg_name (i := 7) sc_told_nodes.nd rfl (Or.inl rfl))) (fun _ _ _ _ _ => (pts_one (pt_cmpR op_eq (pe_ix (ix_tupK (K := K) rfl) (pv 7) pe_int (fun _ _ => rfl)) (pv 6) (nomark _)))) (fun _ _ _ _ _ => (pv 7))) pa_nil) TB rfl List.mem_cons_self (tt_u rfl) hr rfl (lamS1_by (by rfl)) sc_told_nodes.nd rfl rfl (fun _ _ _ _ _ _ => rfl) (fun A outer s H f c1 hl => (pe_ix (ix_tupK (K := K) rfl) (pe_fdgetP (P := P) (w := w) (K := K) rfl rfl rfl hl.u1 (pv 2) (pv 9) (fun _ _ => rfl)) pe_int (fun _ _ => rfl)))) pa_nil)))))))))), ?_⟩
    obtain ⟨ra, ws, rfl, hra, hi⟩ := id hx
    have hl := paired_len hi
    have hel := hfr.len
    have ekl : (keysOf fd).length = fd.length := List.length_map ..
    have kl := hok.len hlen
    have nf : ∀ xs, FdO P w f es ≠ .tup xs := fun xs h => nomatch h
    -- ends
    refine ⟨f, FdO P w f es, hf, trivial, fun od => ?_⟩
    have ez : ExT H (upd H f (.frz od (FdO P w f es))) := .upd hf nf
    have hraz : upd H f (.frz od (FdO P w f es)) ra = some (.tup ws) := ez _ _ hra
    have hfz := hfr.monoT ez
    refine s_asgR (er_lcFd (R := NodeR aF) nodeR_mono (es := es) (fun i => ((keysOf fd).take i).filter fun y => decide (y.p = (r.length : Int) - 1)) rfl (fun i => Nat.lt_of_le_of_lt (Nat.le_trans (List.length_filter_le _ _) (take_len _ i 1352 kl)) (by decide)) upd_same (ev_var rfl) ?_) fun v H1 e1 hv => ⟨e1 _ _ upd_same, ?_⟩
    · intro i kd bd vd H1 e1 hes
      obtain ⟨fe, hfe, e2, hnd, _⟩ := L2.paired_get hfz hes
      have e2 : kd = fe.1 := e2
      have hnd : NdAt aF H1 (.ref bd) kd := (show NdAt aF _ (.ref bd) kd from hnd).mono e1
      have hke : (keysOf fd)[i]? = some kd := by
        unfold keysOf
        rw [List.getElem?_map, hfe, e2]
        rfl
      obtain ⟨_, ea, hsq⟩ := hnd.sq KF
      cases ea
      have ho := out_filter (fun (y : Nd) => decide (y.p = (r.length : Int) - 1)) (fun y => y) (keysOf fd) i hke
      simp only [List.map_id'] at ho
      refine turn_name (b := decide (kd.p = (r.length : Int) - 1)) rfl (et_is (et_test (ev_op (ev_op (ev_var rfl) ev_c (rv_ixT hsq at0)) (ev_op (ev_lenS (ev_var rfl) (.inr (st_of (e1 _ _ hraz)))) ev_c rv_I0) (rv_eq rfl))) (by rw [int_dec, hl])) (fun hb => ⟨kd, er_of (ev_var rfl) fun H2 e2 => hnd.mono e2, ?_⟩) fun hb => ?_
      · rw [ho, hb, if_pos rfl]
      · rw [ho, hb, if_neg Bool.false_ne_true, List.append_nil]
    have hE : Ex H (upd H1 f (FdO P w f es)) := fun a o ha => by
      by_cases ea : a = f
      · rw [ea, upd_same, ← hf, ← ea]
        exact ha.symm ▸ rfl
      · rw [upd_ne ea]
        exact e1 _ _ (by rw [upd_ne ea]; exact ha)
    have hv : LstR (NodeR aF) (upd H1 f (FdO P w f es)) v (endsOf r fd) := by
      obtain ⟨a, acc, h1, h2, h3⟩ := hv
      have e3 : (keysOf fd).take es.length = keysOf fd := by rw [hel, ← ekl, List.take_length]
      rw [e3] at h3
      exact ⟨a, acc, h1, by rw [upd_ne (ne_of h2 (e1 _ _ upd_same) fun h => nomatch h)]; exact h2, Paired.mapP h3 fun _ _ q => NdAt.monoT (.upd (e1 _ _ upd_same) fun _ h => nomatch h) q⟩
    generalize upd H1 f (FdO P w f es) = H2 at hE hv
    obtain ⟨la, acc, rfl, hla, hacc⟩ := hv
    have hal := paired_len hacc
    have hel2 : (endsOf r fd).length ≤ 1352 := Nat.le_trans (nodesK_len _ _) kl
    have getN : ∀ {j : Nat} {y : Nd}, (endsOf r fd)[j]? = some y → (endsOf r fd).getD j first = y := fun {j y} h => by
      rw [List.getD_eq_getElem?_getD, h]
      rfl
    have memE : ∀ {y : Nd}, y ∈ endsOf r fd → y ∈ keysOf fd := fun {y} h => (nodesK_mem h).1
    -- what is found of a node, in any heap behind
    have look : ∀ (H' : Hp) (y : Nd) (ya : Addr), ExT H H' → y ∈ keysOf fd → ∃ e0 cv ov, esGet es y = some (.ref e0) ∧ H' e0 = some (.tup [cv, ov]) ∧ TupAt H' cv (costV (costAt fd y)) := fun H' y ya et hy => by
      rcases (hfr.monoT et).get y with ⟨_, g2⟩ | ⟨v0, y0, g1, g2, cv0, ov0, ⟨e0, rfl, he0⟩, hc0, _⟩
      · have := fget_isSome.mpr hy
        rw [g2] at this
        cases this
      · refine ⟨e0, cv0, ov0, g1, he0, ?_⟩
        have : costAt fd y = y0.1 := by
          unfold costAt
          rw [g2]
        rw [this]
        exact hc0
    refine q_when (b := (endsOf r fd).isEmpty) (et_is (et_test (ev_eqNil (ds := (endsOf r fd).map nodeD) (ev_var rfl) hla (fun H' e' => dpAll_of (Paired.mapP hacc fun v y q => by
      obtain ⟨a, rfl, h⟩ := (NdAt.mono e' q).sq KF
      exact nodeD_dp h)) fun d hd => by
        obtain ⟨y, _, e⟩ := List.mem_map.mp hd
        rw [← e]
        exact nodeD_ok y)) (by cases endsOf r fd <;> rfl)) (fun hb H3 e3 => ?_) fun hb H3 e3 => ?_
    · exact s_ret ev_c fun H4 e4 => k _ H4 (K51.ExtN.ofEx ((hE.trans e3).trans e4)) (hT.ext ((hE.trans e3).trans e4)) (.inl ⟨List.isEmpty_iff.mp hb, rfl⟩)
    have hne : 0 < (endsOf r fd).length := by
      cases he : endsOf r fd with
      | nil =>
        rw [he] at hb
        cases hb
      | cons _ _ => exact Nat.succ_pos _
    -- base
    refine ⟨.ref la, rfl, la, acc, rfl, e3 _ _ hla, by omega, hT.ext (hE.trans e3), fun H4 e4 hT4 => ⟨fun j => key (costAt fd ((endsOf r fd).getD j first)) ++ [((endsOf r fd).getD j first).n], fun j x hj => ?_, fun j x H5 e5 hj hbest => ?_⟩⟩
    · obtain ⟨y, hy, hny⟩ := L2.paired_get hacc hj
      have n4 : ExtN H H4 := (K51.ExtN.ofEx (hE.trans e3)).trans e4
      have hny4 : NdAt aF H4 x y := NdAt.monoT (ExT.ofN ((K51.ExtN.ofEx e3).trans e4)) hny
      obtain ⟨ya, rfl, hsq⟩ := hny4.sq KF
      obtain ⟨e0, cv, ov, g1, he0, c0, rfl, hc0⟩ := look H4 y ya (ExT.ofN n4) (memE (List.mem_of_getElem? hy))
      simp only [getN hy]
      refine er_imp (er_tup (ea_cons (ev_ixT (ev_op (ev_var rfl) (ev_var rfl) (rv_fdget (n4 _ _ hf fun _ h => nomatch h) ((hfr.monoT (ExT.ofN n4)).keys KF) hsq g1)) ev_c he0 at0) (ea_cons (ev_op (ev_var rfl) ev_c (rv_ixT hsq at1)) ea_nil)) (by show 2 ≤ 100000; decide)) fun v H' e h => ⟨.ref c0, y.n, key (costAt fd y), h, ⟨c0, rfl, e _ _ hc0⟩, rfl, rfl⟩
    obtain ⟨nb, hnb, hnbx⟩ := L2.paired_get hacc hj
    have n5 : ExtN H H5 := ((K51.ExtN.ofEx (hE.trans e3)).trans e4).trans (K51.ExtN.ofEx e5)
    have m5 : ExtN H2 H5 := ((K51.ExtN.ofEx e3).trans e4).trans (K51.ExtN.ofEx e5)
    have hT5 : Tabs (Tt Pt) H5 := hT4.ext e5
    have hnb5 : NdAt aF H5 x nb := NdAt.monoT (ExT.ofN m5) hnbx
    have b2 : ∀ y ∈ endsOf r fd, lexLt (key (costAt fd y) ++ [y.n]) (key (costAt fd nb) ++ [nb.n]) = false := fun y hy => by
      obtain ⟨j', hj'⟩ := List.mem_iff_getElem?.mp hy
      have h1 := (hbest j' (by have := (List.getElem?_eq_some_iff.mp hj').1; omega)).1
      dsimp only at h1
      rw [getN hj', getN hnb] at h1
      exact h1
    obtain ⟨xb, rfl, hxb⟩ := hnb5.sq KF
    clear hbest
    -- wished
    obtain ⟨b', rdx, wa, hb', hbr, hw⟩ := hu
    cases hb'
    have hbr5 := n5 _ _ hbr fun _ h => nomatch h
    refine q_asg (ev_op (ev_op (ev_var rfl) ev_c (rv_ixT hxb at1)) (ev_fld (ev_var rfl) hbr5 RR.cl RR.nO ruF_loose) rv_I0) fun H6 e6 => ?_
    -- many
    have hla6 : H6 la = some (.lst acc) := e6 _ _ (m5 _ _ hla fun _ h => nomatch h)
    have hacc6 : NodesR aF H6 acc (endsOf r fd) := NodesR.monoT ((ExT.ofN m5).trans (.of e6)) hacc
    refine q_minKey (er_lcL (R := fun _ v (n : Int) => v = .int n) (fun _ _ _ _ _ h => h) (xs := acc) (fun i => ((endsOf r fd).take i).map (·.n)) rfl (fun i => by rw [List.length_map]; exact Nat.lt_of_le_of_lt (take_len _ i 1352 hel2) (by decide)) (er_of (ev_var rfl) fun H7 e7 => ⟨la, rfl, e7 _ _ hla6⟩) ?_) fun v H7 e7 hv7 => ?_
    · intro i z H7 e7 hz
      obtain ⟨y, hy, hny⟩ := L2.paired_get hacc6 hz
      obtain ⟨ya, rfl, hsq⟩ := (NdAt.mono e7 hny).sq KF
      refine turn_name (b := true) rfl et_yes (fun _ => ⟨y.n, er_of (ev_op (ev_var rfl) ev_c (rv_ixT hsq at1)) fun _ _ => rfl, out_map (fun (y : Nd) => y.n) _ _ hy⟩) fun h => nomatch h
    obtain ⟨lb, accN, rfl, hlb, haccN⟩ := hv7
    have eN : accN = (endsOf r fd).map fun y => V.int y.n := by
      have h1 := paired_fn haccN
      rw [h1, hal, List.take_length, List.map_map]
      rfl
    have hT6 : Tabs (Tt Pt) H7 := hT5.ext (e6.trans e7)
    have getM : ∀ {j : Nat} {v : V}, accN[j]? = some v → ∃ y, (endsOf r fd)[j]? = some y ∧ v = .int y.n := fun {j v} h => by
      rw [eN, List.getElem?_map] at h
      obtain ⟨y, h1, h2⟩ := Option.map_eq_some_iff.mp h
      exact ⟨y, h1, h2.symm⟩
    have hNl : accN.length = (endsOf r fd).length := by rw [eN, List.length_map]
    refine ⟨lb, accN, rfl, hlb, by omega, hT6, fun H8 e8 hT8 => ⟨fun j => [((((endsOf r fd).getD j first).n - (nb.n + u.loose)).natAbs : Int), ((endsOf r fd).getD j first).n], fun j z hj => ?_, fun j z H9 e9 hj hbest => ?_⟩⟩
    · obtain ⟨y, hy, rfl⟩ := getM hj
      simp only [getN hy]
      refine er_imp (er_tup (ea_cons (ev_is (w := .int ((y.n - (nb.n + u.loose)).natAbs : Int)) (ev_abs (ev_op (ev_var rfl) (ev_var rfl) rv_I0)) (by congr 1; split <;> omega)) (ea_cons (ev_var rfl) ea_nil)) (by show 2 ≤ 100000; decide)) fun v H' e h => h
    obtain ⟨nm, hnm, rfl⟩ := getM hj
    have m2 : ∀ y ∈ endsOf r fd, lexLt [((y.n - (nb.n + u.loose)).natAbs : Int), y.n] [((nm.n - (nb.n + u.loose)).natAbs : Int), nm.n] = false := fun y hy => by
      obtain ⟨j', hj'⟩ := List.mem_iff_getElem?.mp hy
      have h1 := (hbest j' (by have := (List.getElem?_eq_some_iff.mp hj').1; omega)).1
      dsimp only at h1
      rw [getN hj', getN hnm] at h1
      exact h1
    clear hbest
    have n9 : ExtN H H9 := ((n5.trans (K51.ExtN.ofEx (e6.trans e7))).trans e8).trans (K51.ExtN.ofEx e9)
    have m9 : ExtN H5 H9 := ((K51.ExtN.ofEx (e6.trans e7)).trans e8).trans (K51.ExtN.ofEx e9)
    have hla9 : H9 la = some (.lst acc) := m9 _ _ (m5 _ _ hla fun _ h => nomatch h) fun _ h => nomatch h
    have hacc9 : NodesR aF H9 acc (endsOf r fd) := NodesR.monoT ((ExT.ofN m5).trans (ExT.ofN m9)) hacc
    -- the pair
    refine ⟨.ref xb, rfl, v_minKey (er_lcL (R := NodeR aF) nodeR_mono (xs := acc) (fun i => ((endsOf r fd).take i).filter fun y => decide (y.n = nm.n)) rfl (fun i => Nat.lt_of_le_of_lt (Nat.le_trans (List.length_filter_le _ _) (take_len _ i 1352 hel2)) (by decide)) (er_of (ev_var rfl) fun H7 e7 => ⟨la, rfl, e7 _ _ hla9⟩) ?_) fun v H10 e10 hv10 => ?_⟩
    · intro i z H7 e7 hz
      obtain ⟨y, hy, hny⟩ := L2.paired_get hacc9 hz
      have hny := NdAt.mono e7 hny
      obtain ⟨ya, rfl, hsq⟩ := hny.sq KF
      have ho := out_filter (fun (y : Nd) => decide (y.n = nm.n)) (fun y => y) (endsOf r fd) i hy
      simp only [List.map_id'] at ho
      refine turn_name (b := decide (y.n = nm.n)) rfl (et_is (et_test (ev_op (ev_op (ev_var rfl) ev_c (rv_ixT hsq at1)) (ev_var rfl) (rv_eq rfl))) (int_dec _ _)) (fun hb => ⟨y, er_of (ev_var rfl) fun H2 e2 => NdAt.mono e2 hny, ?_⟩) fun hb => ?_
      · rw [ho, hb, if_pos rfl]
      · rw [ho, hb, if_neg Bool.false_ne_true, List.append_nil]
    obtain ⟨lc, accL, rfl, hlc, haccL⟩ := hv10
    rw [hal, List.take_length] at haccL
    have hLl := paired_len haccL
    have memL : ∀ {y : Nd}, y ∈ (endsOf r fd).filter (fun y => decide (y.n = nm.n)) → y ∈ endsOf r fd ∧ y.n = nm.n := fun {y} h => by
      rw [List.mem_filter] at h
      exact ⟨h.1, of_decide_eq_true h.2⟩
    have pos : 0 < accL.length := by
      rw [hLl]
      exact List.length_pos_of_mem (List.mem_filter.mpr ⟨List.mem_of_getElem? hnm, decide_eq_true rfl⟩)
    have getL : ∀ {j : Nat} {y : Nd}, ((endsOf r fd).filter fun y => decide (y.n = nm.n))[j]? = some y → ((endsOf r fd).filter fun y => decide (y.n = nm.n)).getD j first = y := fun {j y} h => by
      rw [List.getD_eq_getElem?_getD, h]
      rfl
    have hT9 : Tabs (Tt Pt) H10 := hT8.ext (e9.trans e10)
    refine ⟨lc, accL, rfl, hlc, pos, hT9, fun H11 e11 hT11 => ⟨fun j => key (costAt fd (((endsOf r fd).filter fun y => decide (y.n = nm.n)).getD j first)), fun j z hj => ?_, fun j z H12 e12 hj hbest => ⟨by show 2 ≤ sizeLine; decide, fun p hp => ?_⟩⟩⟩
    · obtain ⟨y, hy, hny⟩ := L2.paired_get haccL hj
      have n11 : ExtN H H11 := (n9.trans (K51.ExtN.ofEx e10)).trans e11
      have hny4 : NdAt aF H11 z y := NdAt.monoT (ExT.ofN e11) hny
      obtain ⟨ya, rfl, hsq⟩ := hny4.sq KF
      obtain ⟨e0, cv, ov, g1, he0, c0, rfl, hc0⟩ := look H11 y ya (ExT.ofN n11) (memE (memL (List.mem_of_getElem? hy)).1)
      simp only [getL hy]
      exact er_of (ev_ixT (ev_op (ev_var rfl) (ev_var rfl) (rv_fdget (n11 _ _ hf fun _ h => nomatch h) ((hfr.monoT (ExT.ofN n11)).keys KF) hsq g1)) ev_c he0 at0) fun H' e => ⟨c0, rfl, e _ _ hc0⟩
    obtain ⟨nl, hnl, hnlx⟩ := L2.paired_get haccL hj
    have l1 := memL (List.mem_of_getElem? hnl)
    have l2 : ∀ y ∈ endsOf r fd, y.n = nm.n → clt (costAt fd y) (costAt fd nl) = false := fun y hy hyn => by
      obtain ⟨j', hj'⟩ := List.mem_iff_getElem?.mp (List.mem_filter.mpr ⟨hy, decide_eq_true hyn⟩ : y ∈ (endsOf r fd).filter fun y => decide (y.n = nm.n))
      have h1 := (hbest j' (by have := (List.getElem?_eq_some_iff.mp hj').1; omega)).1
      dsimp only at h1
      rw [getL hj', getL hnl] at h1
      exact h1
    refine k _ _ (((n9.trans (K51.ExtN.ofEx e10)).trans e11).trans (K51.ExtN.ofEx (e12.trans (Ex.new hp)))) (hT11.ext (e12.trans (Ex.new hp))) (.inr ⟨nb, nm.n, nl, .ref xb, z, ⟨List.mem_of_getElem? hnb, b2, ⟨nm, List.mem_of_getElem? hnm, rfl⟩, m2, l1, l2⟩, ⟨p, rfl, upd_same⟩, NdAt.mono (e12.trans (Ex.new hp)) (NdAt.monoT (ExT.ofN e11) hnlx)⟩)
end
end K51
set_option Elab.async false
set_option linter.all false
set_option maxRecDepth 100000
set_option maxHeartbeats 4000000
namespace K51
open PySem PySem.Spec PyProof.Rows L2 Evl LamX
/-! ### Glue's making -/
abbrev st_Glue___init__ : Stmt := inClass (top 26) 1
def nm_Glue___init__ : List Str := ["self", "natural", "stretch", "stretch_order", "shrink", "shrink_order"]
theorem sc_Glue___init__ : FnScope nm_Glue___init__ ["self", "natural", "stretch", "stretch_order", "shrink", "shrink_order"] (defScope st_Glue___init__) := ⟨rfl, rfl, rfl, by decide +kernel, rfl, by decide +kernel, by decide +kernel⟩
section
variable {P : Program} {w : World} {K : PySem.W.Frag} {mg : Str → Option Value} {base : Heap} {cG cR cL aF cC Pt : Addr}
abbrev glueKw : List (Str × V) := [("stretch", .int 0), ("stretch_order", .int 0), ("shrink", .int 0), ("shrink_order", .int 0)]
def gA {α : Type} (us mv ws : List α) : List α := us ++ ws ++ mv
theorem glue_kA {f : Addr} {fd : FuncData} (F : FunD K "__init__" "Glue.__init__" (defArgs st_Glue___init__) (defBody st_Glue___init__) (defScope st_Glue___init__) [] glueKw f fd) :
    ∃ mv : List Value, KBn K fd ["self", "natural", "stretch", "stretch_order", "shrink", "shrink_order"] 2 ["stretch", "stretch_order", "shrink"] (fun us ws => gA us mv ws) (fun vs zs => gA vs [.int 0] zs) := by
  refine F.kbinds0 2 _ [("shrink_order", .int 0)] gA (by decide) (fun q h => by rw [List.mem_singleton.mp h]; simp [glueKw]) (fun r1 r2 r3 => (r1.append r3).append r2) fun D doc pm an cdv ct us mv ws h1 h2 h3 => ?_
  match us, h1, mv, h2, ws, h3 with
  | [a, b], _, [m], _, [x, y, z], _ => exact ⟨_, _, _, _, _, _, rfl, rfl, rfl⟩
def gB {α : Type} (us mv ws : List α) : List α := match mv, ws with
  | [m, n], [a, b] => us ++ [a, m, b, n]
  | _, _ => us
theorem glue_kB {f : Addr} {fd : FuncData} (F : FunD K "__init__" "Glue.__init__" (defArgs st_Glue___init__) (defBody st_Glue___init__) (defScope st_Glue___init__) [] glueKw f fd) :
    ∃ mv : List Value, KBn K fd ["self", "natural", "stretch", "stretch_order", "shrink", "shrink_order"] 2 ["stretch", "shrink"] (fun us ws => gB us mv ws) (fun vs zs => gB vs [.int 0, .int 0] zs) := by
  refine F.kbinds0 2 _ [("stretch_order", .int 0), ("shrink_order", .int 0)] gB (by decide) (fun q h => ?_) (fun {vs mz zs us mv ws} r1 r2 r3 => ?_) fun D doc pm an cdv ct us mv ws h1 h2 h3 => ?_
  · rcases List.mem_cons.mp h with e | h
    · rw [e]; simp [glueKw]
    · rw [List.mem_singleton.mp h]; simp [glueKw]
  · unfold gB
    cases r2 with
    | nil => exact r1
    | cons q1 r2 => cases r2 with
      | nil => exact r1
      | cons q2 r2 => cases r2 with
        | cons q3 r2 => exact r1
        | nil => cases r3 with
          | nil => exact r1
          | cons p1 r3 => cases r3 with
            | nil => exact r1
            | cons p2 r3 => cases r3 with
              | cons p3 r3 => exact r1
              | nil => exact r1.append (.cons p1 (.cons q1 (.cons p2 (.cons q2 .nil))))
  · match us, h1, mv, h2, ws, h3 with
    | [a, b], _, [m, n], _, [x, y], _ => exact ⟨_, _, _, _, _, _, rfl, rfl, _, _, _, _, _, _, rfl, rfl, rfl⟩
theorem glue_kC {f : Addr} {fd : FuncData} (F : FunD K "__init__" "Glue.__init__" (defArgs st_Glue___init__) (defBody st_Glue___init__) (defScope st_Glue___init__) [] glueKw f fd) :
    ∃ mv : List Value, KBn K fd ["self", "natural", "stretch", "stretch_order", "shrink", "shrink_order"] 2 ["stretch", "stretch_order"] (fun us ws => gA us mv ws) (fun vs zs => gA vs [.int 0, .int 0] zs) := by
  refine F.kbinds0 2 _ [("shrink", .int 0), ("shrink_order", .int 0)] gA (by decide) (fun q h => ?_) (fun r1 r2 r3 => (r1.append r3).append r2) fun D doc pm an cdv ct us mv ws h1 h2 h3 => ?_
  · rcases List.mem_cons.mp h with e | h
    · rw [e]; simp [glueKw]
    · rw [List.mem_singleton.mp h]; simp [glueKw]
  · match us, h1, mv, h2, ws, h3 with
    | [a, b], _, [m, n], _, [x, y], _ => exact ⟨_, _, _, _, _, _, rfl, rfl, _, _, _, _, _, _, rfl, rfl, rfl⟩
/-- what the making of a glue asks of the class -/
structure GI (K : PySem.W.Frag) (cG : Addr) : Prop where
  cl : SlX.SCls K cG
  s0 : ∃ p, SlX.Slot1 K cG "own_natural" p 0
  s1 : ∃ p, SlX.Slot1 K cG "own_shrink" p 1
  s2 : ∃ p, SlX.Slot1 K cG "own_shrink_order" p 2
  s3 : ∃ p, SlX.Slot1 K cG "own_stretch" p 3
  s4 : ∃ p, SlX.Slot1 K cG "own_stretch_order" p 4
theorem q_sl {σ : L2.St} {H : Hp} {ta tv : TE} {D : Ends} {tz : TS} {f : Str} {a C dx p : Addr} {us : List (Option V)} {i : Nat} {v : V} (hv : Ev tv σ H v) (ha : Ev ta σ H (.ref a)) (hs : SlX.Slt H a C dx us) (hc : SlX.SCls K C) (hp : SlX.Slot1 K C f p i)
    (k : ∀ H1, Ex H H1 → tz D σ (SlX.slH H1 a C dx (SlX.putS i v us))) : tSeq (SlX.sSl K ta tv f) tz D σ H := hv H (Ex.refl H) _ fun H1 e1 => ha H1 e1 _ fun H2 e2 =>
  ⟨a, C, dx, p, us, i, rfl, hs.imp (fun h => ⟨e2 _ _ (e1 _ _ h.1), h.2⟩) fun h => ⟨e2 _ _ (e1 _ _ h.1), e2 _ _ (e1 _ _ h.2)⟩, hc, hp, k H2 (e1.trans e2)⟩
theorem s_sl {σ : L2.St} {H : Hp} {ta tv : TE} {D : Ends} {f : Str} {a C dx p : Addr} {us : List (Option V)} {i : Nat} {v : V} (hv : Ev tv σ H v) (ha : Ev ta σ H (.ref a)) (hs : SlX.Slt H a C dx us) (hc : SlX.SCls K C) (hp : SlX.Slot1 K C f p i)
    (k : ∀ H1, Ex H H1 → D.nx σ (SlX.slH H1 a C dx (SlX.putS i v us))) : SlX.sSl K ta tv f D σ H := hv H (Ex.refl H) _ fun H1 e1 => ha H1 e1 _ fun H2 e2 =>
  ⟨a, C, dx, p, us, i, rfl, hs.imp (fun h => ⟨e2 _ _ (e1 _ _ h.1), h.2⟩) fun h => ⟨e2 _ _ (e1 _ _ h.1), e2 _ _ (e1 _ _ h.2)⟩, hc, hp, k H2 (e1.trans e2)⟩
def sp_glue_init (cG : Addr) : Sp := fun vs H Q _ => ∃ (a dx : Addr) (n s o k : Int) (H0 : Hp), vs = [.ref a, .int n, .int s, .int o, .int k, .int 0] ∧ H0 a = none ∧ H0 dx = none ∧ dx ≠ a ∧ H a = some (.ins cG dx []) ∧ Ex H0 H ∧
  (-1000 ≤ n ∧ n ≤ 1000) ∧ (0 ≤ s ∧ s ≤ 1000) ∧ (0 ≤ o ∧ o ≤ 3) ∧ (0 ≤ k ∧ k ≤ 1000) ∧ (s = 0 → o = 0) ∧ ∀ H3, Ex H0 H3 → GSlot cG H3 (.ref a) n s o k → Q .non H3
theorem ok_glue_init (T : Tx K mg cG cR cL aF) (G : GI K cG) {f : Addr} {fd : FuncData} (F : FunD K "__init__" "Glue.__init__" (defArgs st_Glue___init__) (defBody st_Glue___init__) (defScope st_Glue___init__) [] glueKw f fd) (c_is_length : Cal P w K mg base "is_length" ["value"] 2 sp_is_length)
    (c_is_amount : Cal P w K mg base "is_amount" ["value"] 3 sp_is_amount) (c_is_order : Cal P w K mg base "is_order" ["value"] 2 sp_is_order) : FnOk P w K mg base CX0 4 f fd ["self", "natural", "stretch", "stretch_order", "shrink", "shrink_order"] (sp_glue_init cG) := by
  refine F.ok sc_Glue___init__ (fun vs H Q E h => ?_) (fun cdv A outer s H vs Q E hr h => ?_)
  · obtain ⟨a, dx, n, s, o, k, H0, rfl, _⟩ := h
    rfl
  · obtain ⟨a, dx, n, s', o, k', H0, rfl, na, nd, ne, ha, hE, bn, bs, bo, bk, so, k⟩ := h
    refine ⟨_, PSs.nox (pss_cons (ps_if (PW.pt (pw_or (pt_not (pt_val (pe_cal c_is_length (hr.mono (by decide)) (pa_cons (pv 1) pa_nil)))) (pw_or (pt_not (pt_val (pe_cal c_is_amount (hr.mono (by decide)) (pa_cons (pv 2) pa_nil)))) (pw_or1 (pt_not (pt_val (pe_cal c_is_amount (hr.mono (by decide)) (pa_cons (pv 4) pa_nil)))))))) (pss_one ps_never) pss_nil)
      (pss_cons (ps_if (PW.pt (pw_or (pt_not (pt_val (pe_cal c_is_order (hr.mono (by decide)) (pa_cons (pv 3) pa_nil)))) (pw_or1 (pt_not (pt_val (pe_cal c_is_order (hr.mono (by decide)) (pa_cons (pv 5) pa_nil))))))) (pss_one ps_never) pss_nil)
      (pss_cons (SlX.ps_sl (pv 0) (pv 1))
      (pss_cons (SlX.ps_sl (pv 0) (pv 2))
      (pss_cons (SlX.ps_sl (pv 0) (pe_ifExp (pt_cmpR op_gt (pv 2) pe_int (nomark _)) (pv 3) pe_int))
      (pss_cons (SlX.ps_sl (pv 0) (pv 4))
      (pss_one (SlX.ps_sl (pv 0) (pe_ifExp (pt_cmpR op_gt (pv 4) pe_int (nomark _)) (pv 5) pe_int))))))))), ?_⟩
    obtain ⟨p0, g0⟩ := G.s0
    obtain ⟨p1, g1⟩ := G.s1
    obtain ⟨p2, g2⟩ := G.s2
    obtain ⟨p3, g3⟩ := G.s3
    obtain ⟨p4, g4⟩ := G.s4
    have e0 := Ex.refl H
    have sl0 : SlX.Slt H a cG dx [] := .inl ⟨ha, rfl⟩
    refine q_when (b := false) (et_is (et_or (a := false) (b := false) (et_not (a := true) (et_B (ev_is (ev_calV (ea_cons (ev_var rfl) ea_nil) fun H1 e1 => ⟨n, rfl, rfl⟩) (by rw [decide_eq_true (by unfold iabs; split <;> omega)])))) fun _ => et_or (a := false) (b := false) (et_not (a := true) (et_B (ev_is (ev_calV (ea_cons (ev_var rfl) ea_nil) fun H1 e1 => ⟨s', rfl, rfl⟩) (by rw [decide_eq_true (by omega)])))) fun _ => et_not (a := true) (et_B (ev_is (ev_calV (ea_cons (ev_var rfl) ea_nil) fun H1 e1 => ⟨k', rfl, rfl⟩) (by rw [decide_eq_true (by omega)])))) rfl) (fun h => nomatch h) fun _ H1 e1 => ?_
    refine q_when (b := false) (et_is (et_or (a := false) (b := false) (et_not (a := true) (et_B (ev_is (ev_calV (ea_cons (ev_var rfl) ea_nil) fun H1 e1 => ⟨o, rfl, rfl⟩) (by rw [decide_eq_true (by omega)])))) fun _ => et_not (a := true) (et_B (ev_is (ev_calV (ea_cons (ev_var rfl) ea_nil) fun H1 e1 => ⟨0, rfl, rfl⟩) (by rfl)))) rfl) (fun h => nomatch h) fun _ H2 e2 => ?_
    have sl2 : SlX.Slt H2 a cG dx [] := .inl ⟨e2 _ _ (e1 _ _ ha), rfl⟩
    have E2 : Ex H0 H2 := (hE.trans e1).trans e2
    have exS : ∀ {H' : Hp} {us : List (Option V)}, Ex H0 H' → Ex H0 (SlX.slH H' a cG dx us) := fun h => Ex.mut (Ex.mut h nd) na
    refine q_sl (ev_var rfl) (ev_var rfl) sl2 G.cl g0 fun H3 e3 => ?_
    have E3 := exS (us := SlX.putS 0 (.int n) []) (E2.trans e3)
    refine q_sl (ev_var rfl) (ev_var rfl) (SlX.slH_slt ne) G.cl g3 fun H4 e4 => ?_
    have E4 := exS (us := SlX.putS 3 (.int s') (SlX.putS 0 (.int n) [])) (E3.trans e4)
    refine q_sl (v := .int o) (ev_if (et_test (ev_op (ev_var rfl) ev_c rv_I0)) (fun h => ev_var rfl) fun h => ev_is ev_c (by rw [so (by have := of_decide_eq_false h; omega)])) (ev_var rfl) (SlX.slH_slt ne) G.cl g4 fun H5 e5 => ?_
    have E5 := exS (us := SlX.putS 4 (.int o) (SlX.putS 3 (.int s') (SlX.putS 0 (.int n) []))) (E4.trans e5)
    refine q_sl (ev_var rfl) (ev_var rfl) (SlX.slH_slt ne) G.cl g1 fun H6 e6 => ?_
    have E6 := exS (us := SlX.putS 1 (.int k') (SlX.putS 4 (.int o) (SlX.putS 3 (.int s') (SlX.putS 0 (.int n) [])))) (E5.trans e6)
    refine s_sl (v := .int 0) (ev_if (et_test (ev_op (ev_var rfl) ev_c rv_I0)) (fun h => ev_var rfl) fun h => ev_c) (ev_var rfl) (SlX.slH_slt ne) G.cl g2 fun H7 e7 => ?_
    have E7 := exS (us := SlX.putS 2 (.int 0) (SlX.putS 1 (.int k') (SlX.putS 4 (.int o) (SlX.putS 3 (.int s') (SlX.putS 0 (.int n) []))))) (E6.trans e7)
    exact k _ E7 ⟨a, dx, rfl, upd_same, by unfold SlX.slH; rw [upd_ne ne]; exact upd_same⟩
end
end K51
set_option Elab.async false
set_option linter.all false
set_option maxRecDepth 100000
set_option maxHeartbeats 4000000
namespace K51
open PySem PySem.Spec PyProof.Rows L2 Evl LamX
section
variable {K : PySem.W.Frag} {σ : L2.St} {H : Hp} {te : TE}
theorem ev_allR {bs : List Bool} (h : EvR te σ H (fun v H' => LstAt H' v (bs.map V.bl))) : Ev (tCB (rAll K) (tCons te tNil)) σ H (.bl (bs.all id)) := fun H1 e Q q => h H1 e _ fun v H2 e2 ⟨a, hv, ha⟩ => ⟨a, bs, by rw [hv], sq_of ha, q H2 e2⟩
theorem all_true {α : Type} (l : List α) : (l.map fun _ => true).all id = true := by
  rw [List.all_map]
  exact List.all_eq_true.mpr fun _ _ => rfl
/-- [test for x in xs]: all hold -/
theorem er_trues {xs : List V} {tl : TE} {j : Nat} {vs : List Nat} (hl : xs.length ≤ 1000) (h : EvR tl σ H (fun w H' => TupAt H' w xs)) (hw : ∀ x, wipe ((wipe σ vs).set j (some x)) vs = wipe σ vs) (ht : ∀ (i : Nat) (x : V) (H1 : Hp), Ex H H1 → xs[i]? = some x → Ev te ((wipe σ vs).set j (some x)) H1 (.bl true)) :
    EvR (tLc (iTup K tl) (gName j) tYes te vs) σ H (fun v H' => LstAt H' v ((xs.map fun _ => true).map V.bl)) :=
  er_imp (er_lcT (R := RFn V.bl) rfn_mono (fun i => (xs.take i).map fun _ => true) rfl (fun i => by rw [List.length_map, List.length_take]; omega) h fun i x H1 e1 hx => turn_name (b := true) (hw x) et_yes (fun _ => ⟨true, er_of (ht i x H1 e1 hx) fun _ _ => rfl, out_map (fun _ => true) _ _ hx⟩) fun h => nomatch h) fun v H1 _ h => by
    have h := h.fn
    rw [List.take_length] at h
    exact h
end
section
variable {P : Program} {w : World} {K : PySem.W.Frag} {mg : Str → Option Value} {base : Heap} {cG cR cL aF cC Pt : Addr}
/-! ### is_measured_item -/
abbrev st_is_measured_item : Stmt := top 43
def nm_is_measured_item : List Str := ["value", "width"]
theorem sc_is_measured_item : FnScope nm_is_measured_item ["value"] (defScope st_is_measured_item) := ⟨rfl, rfl, rfl, by decide +kernel, rfl, by decide +kernel, by decide +kernel⟩
def sp_is_measured_item (cG : Addr) : Sp := spV fun vs H v => ∃ x it, vs = [x] ∧ ItAt (GSlot cG) H x it ∧ it.Bd ∧ v = .bl true
theorem ok_is_measured_item (T : Tx K mg cG cR cL aF) (GG : GC P w K mg base cG) (D : DefAt K mg "is_measured_item" "is_measured_item" "is_measured_item" st_is_measured_item) (c_is_length : Cal P w K mg base "is_length" ["value"] 2 sp_is_length) (c_is_within : Cal P w K mg base "is_within" ["value", "low", "high"] 2 sp_is_within) :
    Cal P w K mg base "is_measured_item" ["value"] 3 (sp_is_measured_item cG) := by
  refine cal_of D sc_is_measured_item (fun _ _ _ _ _ _ us hl => match us, hl with | [_], _ => rfl) (fun vs H Q E h => ?_) (fun f cdv A outer s H vs Q E hr h => ?_)
  · obtain ⟨v, ⟨x, it, rfl, _⟩, _⟩ := h
    rfl
  · obtain ⟨v, ⟨x, it, rfl, hit, hbd, rfl⟩, k⟩ := h
    refine ⟨_, (pss_cons (ps_if (PW.pt (pw_or (pt_not (pt_val (pe_callB call_isi (by rfl) T.isinstance_ (by decide +kernel) (pa_cons (pv 0) (pa_cons (pe_bltn (v := .ty "tuple") rfl T.tuple_ (by decide +kernel) rfl) pa_nil))))) (pw_or (pt_cmpR op_lt (pe_callB call_len_seq (by rfl) T.len_ (by decide +kernel) (pa_cons (pv 0) pa_nil)) pe_int (nomark _)) (pw_or1 (pt_not (pt_val (pe_callB call_isi (by rfl) T.isinstance_ (by decide +kernel) (pa_cons (pe_ix ix_tup (pv 0) pe_int (fun _ _ => rfl)) (pa_cons (pe_bltn (v := .ty "str") rfl T.str_ (by decide +kernel) rfl) pa_nil))))))))) (pss_one (ps_ret pe_bl)) pss_nil)
      (pss_cons (ps_match (pe_ix ix_tup (pv 0) pe_int (fun _ _ => rfl)) (pm_cons (pss_one (ps_ret (pe_and (pe_cmpR op_eq (pe_callB call_len_seq (by rfl) T.len_ (by decide +kernel) (pa_cons (pv 0) pa_nil)) pe_int (nomark _)) (pe_one (pe_cal c_is_length (hr.mono (by decide)) (pa_cons (pe_ix ix_tup (pv 0) pe_int (fun _ _ => rfl)) pa_nil)))))) (pm_cons (pss_one (ps_ret (pe_and (pe_cmpR op_eq (pe_callB call_len_seq (by rfl) T.len_ (by decide +kernel) (pa_cons (pv 0) pa_nil)) pe_int (nomark _)) (pe_and (pe_callB (SlX.call_isiSl (.ref cG)) (by rfl) T.isinstance_ (by decide +kernel) (pa_cons (pe_ix ix_tup (pv 0) pe_int (fun _ _ => rfl)) (pa_cons (pe_gr T.g_Glue) pa_nil))) (pe_one (pe_cmpR op_eq (pe_glue_shrink_order GG (hr.mono (by decide)) (pe_ix ix_tup (pv 0) pe_int (fun _ _ => rfl))) pe_int (nomark _))))))) (pm_cons (pss_one (ps_ret (pe_and (pe_cmpR op_eq (pe_callB call_len_seq (by rfl) T.len_ (by decide +kernel) (pa_cons (pv 0) pa_nil)) pe_int (nomark _)) (pe_one (pe_cal c_is_within (hr.mono (by decide)) (pa_cons (pe_ix ix_tup (pv 0) pe_int (fun _ _ => rfl)) (pa_cons (pe_gi T.g_OPENED) (pa_cons (pe_gi T.g_CLOSED) pa_nil)))))))) (pm_cons (pss_one (ps_ret (pe_and (pe_cmpR op_eq (pe_callB call_len_seq (by rfl) T.len_ (by decide +kernel) (pa_cons (pv 0) pa_nil)) pe_int (nomark _)) (pe_one (pe_callB (cr_all rfl) (by rfl) T.all_ (by decide +kernel) (pa_cons (pe_lc (own := [("width", 1)]) rfl sc_is_measured_item.nd (pi_tup (pe_slice sl_tupA (pv 0) (po_some pe_int) po_none)) (blkOk_by (own := [("width", 1)]) (N := nm_is_measured_item) (sc := defScope st_is_measured_item) (by decide +kernel)) (fun _ _ _ _ _ => (pg_name (i := 1) sc_is_measured_item.nd rfl (Or.inl rfl))) (fun _ _ _ _ _ => pts_nil) (fun _ _ _ _ _ => (pe_cal c_is_length (hr.mono (by decide)) (pa_cons (pv 1) pa_nil)))) pa_nil)))))) pm_nil)))))
      (pss_one (ps_ret pe_bl)))), ?_⟩
    obtain ⟨a, xs, rfl, ha⟩ := hit.tag
    have hlen : 2 ≤ (V.str it.tag :: xs).length := by
      cases hit with
      | box h => rw [ha] at h; cases h; exact Nat.le_refl 2
      | glue h _ => rw [ha] at h; cases h; exact Nat.le_refl 2
      | part h => rw [ha] at h; cases h; show 2 ≤ 4; decide
      | pen h => rw [ha] at h; cases h; exact Nat.le_refl 2
    refine q_when (b := false) (et_is (et_or (a := false) (b := false) (et_not (a := true) (et_B (ev_isi (b := true) (ev_var rfl) ev_c (fun H1 e1 => .base (.tup (e1 _ _ ha))) rfl))) fun _ => et_or (a := false) (b := false) (et_is (et_test (ev_op (ev_lenS (ev_var rfl) (.inr (st_of ha))) ev_c rv_I0)) (decide_eq_false (by omega))) fun _ => et_not (a := true) (et_B (ev_isi (b := true) (ev_ixT (ev_var rfl) ev_c ha at0) ev_c (fun H1 e1 => .base (.str _)) rfl))) rfl) (fun h => nomatch h) fun _ H1 e1 => ?_
    cases hit with
    | box h =>
      refine q_match (ev_ixT (ev_var rfl) ev_c (e1 _ _ h) at0) fun H2 e2 => m_yes ?_
      exact s_ret (ev_andV (a := true) (b := true) (ev_op (ev_lenS (ev_var rfl) (.inr (st_of (e2 _ _ (e1 _ _ h))))) ev_c (rv_eq rfl)) fun _ => ev_is (ev_calV (ea_cons (ev_ixT (ev_var rfl) ev_c (e2 _ _ (e1 _ _ h)) at1) ea_nil) fun H3 e3 => ⟨_, rfl, rfl⟩) (by rw [decide_eq_true (by unfold iabs; have := hbd; unfold It.Bd at this; split <;> omega)])) fun H3 e3 => k H3 ((e1.trans e2).trans e3)
    | glue h g =>
      refine q_match (ev_ixT (ev_var rfl) ev_c (e1 _ _ h) at0) fun H2 e2 => m_no (by decide +kernel) (m_yes ?_)
      have h2 := e2 _ _ (e1 _ _ h)
      have g2 := gSlot_mono.to _ _ _ _ _ _ _ (e1.trans e2) g
      refine s_ret (ev_andV (a := true) (b := true) (ev_op (ev_lenS (ev_var rfl) (.inr (st_of h2))) ev_c (rv_eq rfl)) fun _ => ev_andV (a := true) (b := true) (ev_isiG GG.cl GG.isi GG.own (ev_ixT (ev_var rfl) ev_c h2 at1) ev_c g2) fun _ => ev_is (ev_op (ev_gprop (ev_ixT (ev_var rfl) ev_c h2 at1) g2 rfl) ev_c (rv_eq rfl)) (by rw [int_dec]; rfl)) fun H3 e3 => k H3 ((e1.trans e2).trans e3)
    | part h =>
      refine q_match (ev_ixT (ev_var rfl) ev_c (e1 _ _ h) at0) fun H2 e2 => m_no (by decide +kernel) (m_no (by decide +kernel) (m_no (by decide +kernel) (m_yes ?_)))
      have h2 := e2 _ _ (e1 _ _ h)
      refine s_ret (ev_andV (a := true) (b := true) (ev_op (ev_lenS (ev_var rfl) (.inr (st_of h2))) ev_c (rv_eq rfl)) fun _ => ev_is (ev_allR (er_trues (by show 3 ≤ 1000; decide) (er_slT (ys := [.int _, .int _, .int _]) (ev_var rfl) (eo_some ev_c) eo_none h2 rfl) (fun _ => rfl) fun i x H3 e3 hx => ?_)) (by rw [all_true])) fun H3 e3 => k H3 ((e1.trans e2).trans e3)
      have hm := List.mem_of_getElem? hx
      have hb := hbd
      unfold It.Bd at hb
      obtain ⟨wd, rfl, hw⟩ : ∃ wd : Int, x = .int wd ∧ (0 ≤ wd ∧ wd ≤ 100) := by
        rcases List.mem_cons.mp hm with e | hm
        · exact ⟨_, e, hb.1⟩
        rcases List.mem_cons.mp hm with e | hm
        · exact ⟨_, e, hb.2.1⟩
        · exact ⟨_, List.mem_singleton.mp hm, hb.2.2⟩
      exact ev_is (ev_calV (ea_cons (ev_var rfl) ea_nil) fun H4 e4 => ⟨_, rfl, rfl⟩) (by rw [decide_eq_true (by unfold iabs; split <;> omega)])
    | pen h =>
      refine q_match (ev_ixT (ev_var rfl) ev_c (e1 _ _ h) at0) fun H2 e2 => m_no (by decide +kernel) (m_no (by decide +kernel) (m_yes ?_))
      have h2 := e2 _ _ (e1 _ _ h)
      exact s_ret (ev_andV (a := true) (b := true) (ev_op (ev_lenS (ev_var rfl) (.inr (st_of h2))) ev_c (rv_eq rfl)) fun _ => ev_is (ev_calV (ea_cons (ev_ixT (ev_var rfl) ev_c h2 at1) (ea_cons ev_c (ea_cons ev_c ea_nil))) fun H3 e3 => ⟨_, -10000, 10000, rfl, by decide, by decide, rfl⟩) (by rw [decide_eq_true (by have := hbd; unfold It.Bd at this; omega)])) fun H3 e3 => k H3 ((e1.trans e2).trans e3)
/-! ### are_measured, are_widths -/
theorem at_last {α : Type} {xs : List α} {x : α} (h : xs[xs.length - 1]? = some x) : atI xs (-1) = some x := by
  have h1 := (List.getElem?_eq_some_iff.mp h).1
  unfold atI ixN
  rw [if_neg (by decide), if_pos (by omega)]
  rw [Option.bind_some, ← h]
  congr 1
  omega
abbrev st_are_measured : Stmt := top 46
def nm_are_measured : List Str := ["value", "item"]
theorem sc_are_measured : FnScope nm_are_measured ["value"] (defScope st_are_measured) := ⟨rfl, rfl, rfl, by decide +kernel, rfl, by decide +kernel, by decide +kernel⟩
def sp_are_measured (cG : Addr) : Sp := spV fun vs H v => ∃ x r, vs = [x] ∧ RowAt cG H x r ∧ RowOk r ∧ 2 ≤ r.length ∧ r.length ≤ 12 ∧ (∀ y ∈ r, y.Bd) ∧ v = .bl true
theorem ok_are_measured (T : Tx K mg cG cR cL aF) (D : DefAt K mg "are_measured" "are_measured" "are_measured" st_are_measured) (c_is_measured_item : Cal P w K mg base "is_measured_item" ["value"] 3 (sp_is_measured_item cG)) (c_is_forced : Cal P w K mg base "is_forced" ["item"] 1 (sp_is_forced cG)) :
    Cal P w K mg base "are_measured" ["value"] 4 (sp_are_measured cG) := by
  refine cal_of D sc_are_measured (fun _ _ _ _ _ _ us hl => match us, hl with | [_], _ => rfl) (fun vs H Q E h => ?_) (fun f cdv A outer s H vs Q E hr h => ?_)
  · obtain ⟨v, ⟨x, r, rfl, _⟩, _⟩ := h
    rfl
  · obtain ⟨v, ⟨x, r, rfl, ⟨a, ws, rfl, ha, hi⟩, hro, h2, h12, hbd, rfl⟩, k⟩ := h
    refine ⟨_, (pss_cons (ps_if (PW.pt (pw_or (pt_not (pt_val (pe_callB call_isi (by rfl) T.isinstance_ (by decide +kernel) (pa_cons (pv 0) (pa_cons (pe_bltn (v := .ty "tuple") rfl T.tuple_ (by decide +kernel) rfl) pa_nil))))) (pw_or1 (pt_not (pt_chain op_le op_le pe_int (pe_callB call_len_seq (by rfl) T.len_ (by decide +kernel) (pa_cons (pv 0) pa_nil)) (pe_gi T.g_MOST_ITEMS)))))) (pss_one (ps_ret pe_bl)) pss_nil)
      (pss_one (ps_ret (pe_and (pe_callB (cr_all rfl) (by rfl) T.all_ (by decide +kernel) (pa_cons (pe_lc (own := [("item", 1)]) rfl sc_are_measured.nd (pi_tup (pv 0)) (blkOk_by (own := [("item", 1)]) (N := nm_are_measured) (sc := defScope st_are_measured) (by decide +kernel)) (fun _ _ _ _ _ => (pg_name (i := 1) sc_are_measured.nd rfl (Or.inl rfl))) (fun _ _ _ _ _ => pts_nil) (fun _ _ _ _ _ => (pe_cal c_is_measured_item (hr.mono (by decide)) (pa_cons (pv 1) pa_nil)))) pa_nil)) (pe_one (pe_cal c_is_forced (hr.mono (by decide)) (pa_cons (pe_ix ix_tup (pv 0) (pe_un un_neg pe_int) (fun _ _ => rfl)) pa_nil))))))), ?_⟩
    have hl := paired_len hi
    obtain ⟨hr0, hrf⟩ := hro
    refine q_when (b := false) (et_is (et_or (a := false) (b := false) (et_not (a := true) (et_B (ev_isi (b := true) (ev_var rfl) ev_c (fun H1 e1 => .base (.tup (e1 _ _ ha))) rfl))) fun _ => et_not (a := true) (et_test (ev_is (ev_chain ev_c (ev_lenS (ev_var rfl) (.inr (st_of ha))) rv_I0 (fun _ => ev_c) fun _ => rv_I0) (by rw [decide_eq_true (by omega), decide_eq_true (by omega)]; rfl)))) rfl) (fun h => nomatch h) fun _ H1 e1 => ?_
    have ha1 := e1 _ _ ha
    refine s_ret (ev_andV (a := true) (b := true) (ev_is (ev_allR (er_trues (by omega) (er_of (ev_var rfl) fun H2 e2 => ⟨a, rfl, e2 _ _ ha1⟩) (fun _ => rfl) fun i x H2 e2 hx => ?_)) (by rw [all_true])) fun _ => ?_) fun H2 e2 => k H2 (e1.trans e2)
    · obtain ⟨it, hit, hat⟩ := L2.paired_get hi hx
      exact ev_calV (ea_cons (ev_var rfl) ea_nil) fun H3 e3 => ⟨_, it, rfl, hat.mono gSlot_mono ((e1.trans e2).trans e3), hbd it (List.mem_of_getElem? hit), rfl⟩
    · obtain ⟨z, hz, hit⟩ := its_at hi (i := r.length - 1) (by omega)
      refine ev_calV (ea_cons (ev_ixT (ev_var rfl) (ev_un ev_c ru_neg) ha1 (at_last (by rw [hl]; exact hz))) ea_nil) fun H3 e3 => ⟨_, _, rfl, hit.mono gSlot_mono (e1.trans e3), by rw [hrf]⟩
abbrev st_are_widths : Stmt := top 47
def nm_are_widths : List Str := ["value", "width"]
theorem sc_are_widths : FnScope nm_are_widths ["value"] (defScope st_are_widths) := ⟨rfl, rfl, rfl, by decide +kernel, rfl, by decide +kernel, by decide +kernel⟩
def sp_are_widths : Sp := spV fun vs H v => ∃ (a : Addr) (ws : List Int), vs = [.ref a] ∧ H a = some (.tup (ws.map V.int)) ∧ (1 ≤ ws.length ∧ ws.length ≤ 40) ∧ (∀ x ∈ ws, 0 ≤ x ∧ x ≤ 1000) ∧ v = .bl true
theorem ok_are_widths (T : Tx K mg cG cR cL aF) (D : DefAt K mg "are_widths" "are_widths" "are_widths" st_are_widths) (c_is_length : Cal P w K mg base "is_length" ["value"] 2 sp_is_length) : Cal P w K mg base "are_widths" ["value"] 3 sp_are_widths := by
  refine cal_of D sc_are_widths (fun _ _ _ _ _ _ us hl => match us, hl with | [_], _ => rfl) (fun vs H Q E h => ?_) (fun f cdv A outer s H vs Q E hr h => ?_)
  · obtain ⟨v, ⟨a, ws, rfl, _⟩, _⟩ := h
    rfl
  · obtain ⟨v, ⟨a, ws, rfl, ha, hl, hw, rfl⟩, k⟩ := h
    refine ⟨_, (pss_cons (ps_if (PW.pt (pw_or (pt_not (pt_val (pe_callB call_isi (by rfl) T.isinstance_ (by decide +kernel) (pa_cons (pv 0) (pa_cons (pe_bltn (v := .ty "tuple") rfl T.tuple_ (by decide +kernel) rfl) pa_nil))))) (pw_or1 (pt_not (pt_chain op_le op_le pe_int (pe_callB call_len_seq (by rfl) T.len_ (by decide +kernel) (pa_cons (pv 0) pa_nil)) (pe_gi T.g_MOST_WIDTHS)))))) (pss_one (ps_ret pe_bl)) pss_nil)
      (pss_one (ps_ret (pe_callB (cr_all rfl) (by rfl) T.all_ (by decide +kernel) (pa_cons (pe_lc (own := [("width", 1)]) rfl sc_are_widths.nd (pi_tup (pv 0)) (blkOk_by (own := [("width", 1)]) (N := nm_are_widths) (sc := defScope st_are_widths) (by decide +kernel)) (fun _ _ _ _ _ => (pg_name (i := 1) sc_are_widths.nd rfl (Or.inl rfl))) (fun _ _ _ _ _ => pts_nil) (fun _ _ _ _ _ => (pe_and (pe_cal c_is_length (hr.mono (by decide)) (pa_cons (pv 1) pa_nil)) (pe_one (pe_cmpR op_ge (pv 1) pe_int (nomark _)))))) pa_nil))))), ?_⟩
    have hll : (ws.map V.int).length = ws.length := List.length_map ..
    refine q_when (b := false) (et_is (et_or (a := false) (b := false) (et_not (a := true) (et_B (ev_isi (b := true) (ev_var rfl) ev_c (fun H1 e1 => .base (.tup (e1 _ _ ha))) rfl))) fun _ => et_not (a := true) (et_test (ev_is (ev_chain ev_c (ev_lenS (ev_var rfl) (.inr (st_of ha))) rv_I0 (fun _ => ev_c) fun _ => rv_I0) (by rw [decide_eq_true (by omega), decide_eq_true (by omega)]; rfl)))) rfl) (fun h => nomatch h) fun _ H1 e1 => ?_
    have ha1 := e1 _ _ ha
    refine s_ret (ev_is (ev_allR (er_trues (by omega) (er_of (ev_var rfl) fun H2 e2 => ⟨a, rfl, e2 _ _ ha1⟩) (fun _ => rfl) fun i x H2 e2 hx => ?_)) (by rw [all_true])) fun H2 e2 => k H2 (e1.trans e2)
    rw [List.getElem?_map] at hx
    obtain ⟨y, hy, rfl⟩ := Option.map_eq_some_iff.mp hx
    have hyb := hw y (List.mem_of_getElem? hy)
    exact ev_andV (a := true) (b := true) (ev_is (ev_calV (ea_cons (ev_var rfl) ea_nil) fun H4 e4 => ⟨_, rfl, rfl⟩) (by rw [decide_eq_true (by unfold iabs; split <;> omega)])) fun _ => ev_is (ev_op (ev_var rfl) ev_c rv_I0) (by rw [decide_eq_true (by omega)])
/-! ### require_measured, require_wrong -/
/-- what isinstance asks of the class of rules -/
structure RI (K : PySem.W.Frag) (cR : Addr) : Prop where
  ha : PySem.W.findIn K (.ref cR) "__class__" = some (some (.builtin "object.__class__"))
  hn : PySem.W.specialIn K (.builtin "object.__class__") "__get__" = some (some (.builtin "getset_descriptor.__get__"))
  htk : PySem.W.takesIn K (.builtin "object.__class__") = some true
  hm : PySem.W.mroIn K cR (.type "object") = some true
  own : PySem.W.kitOne K (.ref cR) (.ref cR) = some true
abbrev st_require_measured : Stmt := top 71
def nm_require_measured : List Str := ["row", "rules"]
theorem sc_require_measured : FnScope nm_require_measured ["row", "rules"] (defScope st_require_measured) := ⟨rfl, rfl, rfl, by decide +kernel, rfl, by decide +kernel, by decide +kernel⟩
def sp_require_measured (cG cR : Addr) : Sp := spV fun vs H v => ∃ x y r u, vs = [x, y] ∧ RowAt cG H x r ∧ RulesAt cR H y u ∧ Bd r u ∧ v = .non
theorem ok_require_measured (T : Tx K mg cG cR cL aF) (RR : RC K cR) (R2 : RI K cR) (D : DefAt K mg "require_measured" "require_measured" "require_measured" st_require_measured) (c_are_measured : Cal P w K mg base "are_measured" ["value"] 4 (sp_are_measured cG)) :
    Cal P w K mg base "require_measured" ["row", "rules"] 5 (sp_require_measured cG cR) := by
  refine cal_of D sc_require_measured (fun _ _ _ _ _ _ us hl => match us, hl with | [_, _], _ => rfl) (fun vs H Q E h => ?_) (fun f cdv A outer s H vs Q E hr h => ?_)
  · obtain ⟨v, ⟨x, y, r, u, rfl, _⟩, _⟩ := h
    rfl
  · obtain ⟨v, ⟨x, y, r, u, rfl, hx, hu, hbd, rfl⟩, k⟩ := h
    refine ⟨_, (pss_cons (ps_if (pt_not (pt_val (pe_cal c_are_measured (hr.mono (by decide)) (pa_cons (pv 0) pa_nil)))) (pss_one ps_never) pss_nil)
      (pss_one (ps_if (pt_not (pt_val (pe_callB call_isi (by rfl) T.isinstance_ (by decide +kernel) (pa_cons (pv 1) (pa_cons (pe_gr T.g_Rules) pa_nil))))) (pss_one ps_never) pss_nil))), ?_⟩
    obtain ⟨b, dx, wa, rfl, hb, hw⟩ := hu
    refine q_when (b := false) (et_not (a := true) (et_B (ev_calV (ea_cons (ev_var rfl) ea_nil) fun H1 e1 => ⟨_, r, rfl, hx.mono e1, hbd.ok, hbd.two, hbd.len, hbd.its, rfl⟩))) (fun h => nomatch h) fun _ H1 e1 => ?_
    exact s_when (b := false) (et_not (a := true) (et_B (ev_isiC (C := cR) (D := cR) (b := true) (ev_var rfl) ev_c (fun H2 e2 => .base (.ins (e2 _ _ (e1 _ _ hb)) RR.cl R2.ha R2.hn R2.htk R2.hm)) R2.own))) (fun h => nomatch h) fun _ H2 e2 => k H2 (e1.trans e2)
abbrev st_require_wrong : Stmt := top 72
def nm_require_wrong : List Str := ["row", "rules", "wrong"]
theorem sc_require_wrong : FnScope nm_require_wrong ["row", "rules", "wrong"] (defScope st_require_wrong) := ⟨rfl, rfl, rfl, by decide +kernel, rfl, by decide +kernel, by decide +kernel⟩
def sp_require_wrong (cG cR : Addr) : Sp := spV fun vs H v => ∃ x y r u, ∃ wr : Bool, vs = [x, y, .bl wr] ∧ RowAt cG H x r ∧ RulesAt cR H y u ∧ Bd r u ∧ v = .non
theorem ok_require_wrong (T : Tx K mg cG cR cL aF) (D : DefAt K mg "require_wrong" "require_wrong" "require_wrong" st_require_wrong) (c_require_measured : Cal P w K mg base "require_measured" ["row", "rules"] 5 (sp_require_measured cG cR)) :
    Cal P w K mg base "require_wrong" ["row", "rules", "wrong"] 6 (sp_require_wrong cG cR) := by
  refine cal_of D sc_require_wrong (fun _ _ _ _ _ _ us hl => match us, hl with | [_, _, _], _ => rfl) (fun vs H Q E h => ?_) (fun f cdv A outer s H vs Q E hr h => ?_)
  · obtain ⟨v, ⟨x, y, r, u, wr, rfl, _⟩, _⟩ := h
    rfl
  · obtain ⟨v, ⟨x, y, r, u, wr, rfl, hx, hu, hbd, rfl⟩, k⟩ := h
    refine ⟨_, (pss_cons (ps_expr (pe_cal c_require_measured (hr.mono (by decide)) (pa_cons (pv 0) (pa_cons (pv 1) pa_nil))))
      (pss_one (ps_if (pt_not (pt_val (pe_callB call_isi (by rfl) T.isinstance_ (by decide +kernel) (pa_cons (pv 2) (pa_cons (pe_bltn (v := .ty "bool") rfl T.bool_ (by decide +kernel) rfl) pa_nil))))) (pss_one ps_never) pss_nil))), ?_⟩
    refine q_drop (v := .non) (ev_calV (ea_cons (ev_var rfl) (ea_cons (ev_var rfl) ea_nil)) fun H1 e1 => ⟨x, y, r, u, rfl, hx.mono e1, hu.mono e1, hbd, rfl⟩) fun H1 e1 => ?_
    exact s_when (b := false) (et_not (a := true) (et_B (ev_isi (b := true) (ev_var rfl) ev_c (fun H2 e2 => .base (.bl _)) rfl))) (fun h => nomatch h) fun _ H2 e2 => k H2 (e1.trans e2)
end
end K51
set_option Elab.async false
set_option linter.all false
set_option maxRecDepth 100000
set_option maxHeartbeats 4000000
namespace K51
open PySem PySem.Spec PyProof.Rows L2 Evl LamX
/-! ### calls with keywords -/
structure CalK (P : Program) (w : World) (K : PySem.W.Frag) (mg : Str → Option Value) (base : Heap) (x : Str) (ps : List Str) (k : Nat) (sp : Sp) (n : Nat) (ks : List Str) (gV : List V → List V → List V) : Prop where
  ex : ∃ f fd g, FnOk P w K mg base CX0 k f fd ps sp ∧ mg x = some (.ref f) ∧ PySem.W.keepIn K (.ref f) = true ∧ KBn K fd ps n ks g gV
structure CalD (P : Program) (w : World) (K : PySem.W.Frag) (mg : Str → Option Value) (base : Heap) (x : Str) (ps : List Str) (k : Nat) (sp : Sp) (dvs : List V) : Prop where
  ex : ∃ f fd ds, FnOk P w K mg base CX0 k f fd ps sp ∧ mg x = some (.ref f) ∧ PySem.W.keepIn K (.ref f) = true ∧ Vals dvs ds ∧ Binds K fd ps ds
structure MkK (P : Program) (w : World) (K : PySem.W.Frag) (mg : Str → Option Value) (base : Heap) (C : Addr) (ps : List Str) (k : Nat) (sp : Sp) (n : Nat) (ks : List Str) (gV : List V → List V → List V) : Prop where
  ex : ∃ f fd g, Mk K C f ∧ FnOk P w K mg base CX0 k f fd ps sp ∧ KBn K fd ps (n + 1) ks g gV
structure MkD (P : Program) (w : World) (K : PySem.W.Frag) (mg : Str → Option Value) (base : Heap) (C : Addr) (ps : List Str) (k : Nat) (sp : Sp) (dvs : List V) : Prop where
  ex : ∃ f fd ds, Mk K C f ∧ FnOk P w K mg base CX0 k f fd ps sp ∧ Vals dvs ds ∧ Binds K fd ps ds
section
variable {X : Cx} {C : Addr} {x : Str} {e : Expr} {es : List Expr} {kws : List Keyword} {pos p : Pos} {t tk : TA} {ps : List Str} {k n : Nat} {sp : Sp} {ks : List Str} {gV : List V → List V → List V} {dvs : List V}
theorem pe_calK (M : CalK X.prog X.w X.K X.mg X.base x ps k sp n ks gV) (hr : Room k X.A) (ha : PA X (e :: es) t) (hkw : PK X kws tk) (hg : Gl X x := by rfl) (hall : (backToKw pos (keywordEach kws X.env)).all (·.1.isSome) = true := by rfl) (hks : (backToKw pos (keywordEach kws X.env)).filterMap (·.1) = ks := by rfl)
    (hdb : (x == ("__debug__" : Str)) = false := by decide) (he : starEach (e :: es) X.env = (false, eval e X.env) :: starEach es X.env := by rfl)
    (hpl : ((backTo pos (starEach (e :: es) X.env)).any (·.1) || (backToKw pos (keywordEach kws X.env)).any (·.1.isNone)) = false := by rfl) : PE X (.Call (.Name x p) (e :: es) kws pos) (tCallN n ks.length sp gV E0 t tk) := by
  obtain ⟨f, fd, g, F, hm, hk, hb⟩ := M.ex
  exact pe_callN F hr hg hm hk hb pass0 ha hkw hall hks hdb he hpl
theorem pe_calD (M : CalD X.prog X.w X.K X.mg X.base x ps k sp dvs) (hr : Room k X.A) (ha : PA X (e :: es) t) (hg : Gl X x := by rfl) (hdb : (x == ("__debug__" : Str)) = false := by decide)
    (he : starEach (e :: es) X.env = (false, eval e X.env) :: starEach es X.env := by rfl) (hpl : (backTo pos (starEach es X.env)).any (·.1) = false := by rfl) : PE X (.Call (.Name x p) (e :: es) [] pos) (tCall sp dvs E0 t) := by
  obtain ⟨f, fd, ds, F, hm, hk, hv, hb⟩ := M.ex
  exact pe_call F hr hg hm hk hb hv pass0 ha hdb he hpl
theorem pe_mkK (M : MkK X.prog X.w X.K X.mg X.base C ps k sp n ks gV) (hm : X.mg x = some (.ref C)) (hr : Room (k + 1) X.A) (ha : PA X (e :: es) t) (hkw : PK X kws tk) (hg : Gl X x := by rfl)
    (hall : (backToKw pos (keywordEach kws X.env)).all (·.1.isSome) = true := by rfl) (hks : (backToKw pos (keywordEach kws X.env)).filterMap (·.1) = ks := by rfl) (hdb : (x == ("__debug__" : Str)) = false := by decide)
    (he : starEach (e :: es) X.env = (false, eval e X.env) :: starEach es X.env := by rfl) (hpl : ((backTo pos (starEach (e :: es) X.env)).any (·.1) || (backToKw pos (keywordEach kws X.env)).any (·.1.isNone)) = false := by rfl) :
    PE X (.Call (.Name x p) (e :: es) kws pos) (tMakeK C n ks.length sp gV E0 t tk) := by
  obtain ⟨f, fd, g, hk, F, hb⟩ := M.ex
  exact pe_makeK hk F hr hg hm hb pass0 ha hkw hall hks hdb he hpl
theorem pe_mkD (M : MkD X.prog X.w X.K X.mg X.base C ps k sp dvs) (hm : X.mg x = some (.ref C)) (hr : Room (k + 1) X.A) (ha : PA X (e :: es) t) (hg : Gl X x := by rfl) (hdb : (x == ("__debug__" : Str)) = false := by decide)
    (he : starEach (e :: es) X.env = (false, eval e X.env) :: starEach es X.env := by rfl) (hpl : (backTo pos (starEach es X.env)).any (·.1) = false := by rfl) : PE X (.Call (.Name x p) (e :: es) [] pos) (tMake C sp dvs E0 t) := by
  obtain ⟨f, fd, ds, hk, F, hv, hb⟩ := M.ex
  exact pe_make hk F hr hg hm hb hv pass0 ha hdb he hpl
end
section
variable {P : Program} {w : World} {K : PySem.W.Frag} {mg : Str → Option Value} {base : Heap} {cG cR cL aF cC Pt : Addr}
/-! ### Rules.__init__ -/
abbrev st_Rules___init__ : Stmt := inClass (top 70) 1
def nm_Rules___init__ : List Str := ["self", "widths", "tolerance", "line", "hyphen", "unlike", "double", "last", "room", "looseness", "fits"]
theorem sc_Rules___init__ : FnScope nm_Rules___init__ ["self", "widths", "tolerance", "line", "hyphen", "unlike", "double", "last", "room", "looseness"] (defScope st_Rules___init__) := ⟨rfl, rfl, rfl, by decide +kernel, rfl, by decide +kernel, by decide +kernel⟩
abbrev rulesKw : List (Str × V) := [("tolerance", .int 200), ("line", .int 10), ("hyphen", .int 50), ("unlike", .int 10000), ("double", .int 10000), ("last", .int 5000), ("room", .int 0), ("looseness", .int 0)]
abbrev rulesPs : List Str := ["self", "widths", "tolerance", "line", "hyphen", "unlike", "double", "last", "room", "looseness"]
abbrev RulesFun (K : PySem.W.Frag) (f : Addr) (fd : FuncData) : Prop := FunD K "__init__" "Rules.__init__" (defArgs st_Rules___init__) (defBody st_Rules___init__) (defScope st_Rules___init__) [] rulesKw f fd
theorem rules_kA {f : Addr} {fd : FuncData} (F : RulesFun K f fd) : ∃ mv : List Value, KBn K fd rulesPs 2 ["tolerance", "line", "hyphen", "unlike", "double", "last", "room", "looseness"] (fun us ws => gA us mv ws) (fun vs zs => gA vs [] zs) := by
  refine F.kbinds0 2 _ [] gA (by decide) (fun q h => absurd h List.not_mem_nil) (fun r1 r2 r3 => (r1.append r3).append r2) fun D doc pm an cdv ct us mv ws h1 h2 h3 => ?_
  match us, h1, mv, h2, ws, h3 with
  | [a, b], _, [], _, [x1, x2, x3, x4, x5, x6, x7, x8], _ => exact rfl
theorem rules_kB {f : Addr} {fd : FuncData} (F : RulesFun K f fd) : ∃ mv : List Value, KBn K fd rulesPs 2 ["tolerance"] (fun us ws => gA us mv ws) (fun vs zs => gA vs [.int 10, .int 50, .int 10000, .int 10000, .int 5000, .int 0, .int 0] zs) := by
  refine F.kbinds0 2 _ [("line", .int 10), ("hyphen", .int 50), ("unlike", .int 10000), ("double", .int 10000), ("last", .int 5000), ("room", .int 0), ("looseness", .int 0)] gA (by decide) (fun q h => List.mem_cons_of_mem _ h) (fun r1 r2 r3 => (r1.append r3).append r2) fun D doc pm an cdv ct us mv ws h1 h2 h3 => ?_
  match us, h1, mv, h2, ws, h3 with
  | [a, b], _, [m1, m2, m3, m4, m5, m6, m7], _, [x], _ =>
    exact ⟨_, _, _, _, _, _, rfl, rfl, _, _, _, _, _, _, rfl, rfl, _, _, _, _, _, _, rfl, rfl, _, _, _, _, _, _, rfl, rfl, _, _, _, _, _, _, rfl, rfl, _, _, _, _, _, _, rfl, rfl, _, _, _, _, _, _, rfl, rfl, rfl⟩
theorem rules_kD {f : Addr} {fd : FuncData} (F : RulesFun K f fd) : ∃ ds, Vals (rulesKw.map (·.2)) ds ∧ Binds K fd rulesPs ds := by
  refine F.binds0 2 (by decide) (by rfl) fun D doc pm an cdv ct us ws h1 h2 => ?_
  match us, h1, ws, h2 with
  | [a, b], _, [m0, m1, m2, m3, m4, m5, m6, m7], _ =>
    exact ⟨_, _, _, _, _, _, rfl, rfl, _, _, _, _, _, _, rfl, rfl, _, _, _, _, _, _, rfl, rfl, _, _, _, _, _, _, rfl, rfl, _, _, _, _, _, _, rfl, rfl, _, _, _, _, _, _, rfl, rfl, _, _, _, _, _, _, rfl, rfl, _, _, _, _, _, _, rfl, rfl, rfl⟩
end
end K51
set_option Elab.async false
set_option linter.all false
set_option maxRecDepth 100000
set_option maxHeartbeats 4000000
namespace K51
open PySem PySem.Spec PyProof.Rows L2 Evl LamX
section
variable {P : Program} {w : World} {K : PySem.W.Frag} {mg : Str → Option Value} {base : Heap} {cG cR cL aF cC Pt : Addr}
/-- the bounds of the rules -/
structure BdU (u : Ru) : Prop where
  wl : 1 ≤ u.ws.length ∧ u.ws.length ≤ 40
  ws : ∀ x ∈ u.ws, 0 ≤ x ∧ x ≤ 1000
  tol : 0 ≤ u.tol ∧ u.tol ≤ 10000
  line : 0 ≤ u.line ∧ u.line ≤ 10000
  hyp : -9999 ≤ u.hyp ∧ u.hyp ≤ 10000
  unl : 0 ≤ u.unl ∧ u.unl ≤ 1000000
  dbl : 0 ≤ u.dbl ∧ u.dbl ≤ 1000000
  last : 0 ≤ u.last ∧ u.last ≤ 1000000
  room : 0 ≤ u.room ∧ u.room ≤ 100
  loose : -100 ≤ u.loose ∧ u.loose ≤ 100
def sp_rules_init (cR : Addr) : Sp := fun vs H Q _ => ∃ (a dx wa : Addr) (u : Ru) (H0 : Hp), vs = [.ref a, .ref wa, .int u.tol, .int u.line, .int u.hyp, .int u.unl, .int u.dbl, .int u.last, .int u.room, .int u.loose] ∧ H0 a = none ∧ H a = some (.ins cR dx []) ∧ Ex H0 H ∧
  H wa = some (.tup (u.ws.map V.int)) ∧ BdU u ∧ ∀ H3, Ex H0 H3 → RulesAt cR H3 (.ref a) u → Q .non H3
theorem ok_rules_init (T : Tx K mg cG cR cL aF) (RR : RC K cR) {f : Addr} {fd : FuncData} (F : RulesFun K f fd) (c_are_widths : Cal P w K mg base "are_widths" ["value"] 3 sp_are_widths) (c_is_within : Cal P w K mg base "is_within" ["value", "low", "high"] 2 sp_is_within)
    (c_is_length : Cal P w K mg base "is_length" ["value"] 2 sp_is_length) : FnOk P w K mg base CX0 4 f fd rulesPs (sp_rules_init cR) := by
  refine F.ok sc_Rules___init__ (fun vs H Q E h => ?_) (fun cdv A outer s H vs Q E hr h => ?_)
  · obtain ⟨a, dx, wa, u, H0, rfl, _⟩ := h
    rfl
  · obtain ⟨a, dx, wa, u, H0, rfl, na, ha, hE, hwa, bu, k⟩ := h
    refine ⟨_, PSs.nox (pss_cons (ps_set (i := 10) sc_Rules___init__.nd rfl (Or.inl rfl) (pe_lst (pa_cons (pe_cal c_are_widths (hr.mono (by decide)) (pa_cons (pv 1) pa_nil)) (pa_cons (pe_cal c_is_within (hr.mono (by decide)) (pa_cons (pv 2) (pa_cons pe_int (pa_cons (pe_gi T.g_NEVER) pa_nil)))) (pa_cons (pe_cal c_is_within (hr.mono (by decide)) (pa_cons (pv 3) (pa_cons pe_int (pa_cons (pe_gi T.g_NEVER) pa_nil)))) pa_nil)))))
      (pss_cons (ps_set (i := 10) sc_Rules___init__.nd rfl (Or.inl rfl) (pe_lst (StX.pa_star (pv 10) (pa_cons (pe_cal c_is_within (hr.mono (by decide)) (pa_cons (pv 4) (pa_cons (pe_op op_add (pe_gi T.g_FORCED) pe_int) (pa_cons (pe_gi T.g_NEVER) pa_nil)))) (pa_cons (pe_cal c_is_within (hr.mono (by decide)) (pa_cons (pv 5) (pa_cons pe_int (pa_cons (pe_gi T.g_HIGHEST) pa_nil)))) pa_nil)))))
      (pss_cons (ps_set (i := 10) sc_Rules___init__.nd rfl (Or.inl rfl) (pe_lst (StX.pa_star (pv 10) (pa_cons (pe_cal c_is_within (hr.mono (by decide)) (pa_cons (pv 6) (pa_cons pe_int (pa_cons (pe_gi T.g_HIGHEST) pa_nil)))) (pa_cons (pe_cal c_is_within (hr.mono (by decide)) (pa_cons (pv 7) (pa_cons pe_int (pa_cons (pe_gi T.g_HIGHEST) pa_nil)))) (pa_cons (pe_and (pe_cal c_is_length (hr.mono (by decide)) (pa_cons (pv 8) pa_nil)) (pe_one (pe_cmpR op_ge (pv 8) pe_int (nomark _)))) pa_nil))))))
      (pss_cons (ps_if (PW.pt (pw_or (pt_not (pt_val (pe_callB (cr_all rfl) (by rfl) T.all_ (by decide +kernel) (pa_cons (pv 10) pa_nil)))) (pw_or1 (pt_not (pt_val (pe_cal c_is_within (hr.mono (by decide)) (pa_cons (pv 9) (pa_cons (pe_gi T.g_LEAST_LOOSENESS) (pa_cons (pe_gi T.g_MOST_LOOSENESS) pa_nil))))))))) (pss_one ps_never) pss_nil)
      (pss_cons (ps_fld (pv 0) (pv 1) rfl)
      (pss_cons (ps_fld (pv 0) (pv 2) rfl)
      (pss_cons (ps_fld (pv 0) (pv 3) rfl)
      (pss_cons (ps_fld (pv 0) (pv 4) rfl)
      (pss_cons (ps_fld (pv 0) (pv 5) rfl)
      (pss_cons (ps_fld (pv 0) (pv 6) rfl)
      (pss_cons (ps_fld (pv 0) (pv 7) rfl)
      (pss_cons (ps_fld (pv 0) (pv 8) rfl)
      (pss_one (ps_fld (pv 0) (pv 9) rfl)))))))))))))), ?_⟩
    have wi : ∀ {te : TE} {tl th : TE} {σ : L2.St} {H' : Hp} {i lo hi : Int}, Ev te σ H' (.int i) → Ev tl σ H' (.int lo) → Ev th σ H' (.int hi) → -100000000 ≤ lo → hi ≤ 100000000 → (lo ≤ i ∧ i ≤ hi) → Ev (tCall sp_is_within [] E0 (tCons te (tCons tl (tCons th tNil)))) σ H' (.bl true) := fun {te tl th σ H' i lo hi} h1 h2 h3 l1 l2 hb =>
      ev_is (ev_calV (ea_cons h1 (ea_cons h2 (ea_cons h3 ea_nil))) fun H1 _ => ⟨i, lo, hi, rfl, l1, l2, rfl⟩) (by rw [decide_eq_true hb])
    have evRoom : ∀ (σ : L2.St) (H' : Hp), σ[8]? = some (some (.int u.room)) → Ev (tAndV (tCall sp_is_length [] E0 (tCons (tVar 8) tNil)) (tOp (rI0 fun i j => V.bl (decide (j ≤ i))) (tVar 8) (tC (.int 0)))) σ H' (.bl true) := fun σ H' h =>
      ev_is (ev_andV (a := true) (b := true) (ev_is (ev_calV (ea_cons (ev_var h) ea_nil) fun H1 _ => ⟨u.room, rfl, rfl⟩) (by rw [decide_eq_true (by have := bu.room; unfold iabs; split <;> omega)])) fun _ => ev_is (ev_op (ev_var h) ev_c rv_I0) (by rw [decide_eq_true bu.room.1])) rfl
    refine q_asgL (xs := [.bl true, .bl true, .bl true]) (el_lst (ea_cons (ev_calV (ea_cons (ev_var rfl) ea_nil) fun H1 e1 => ⟨wa, u.ws, rfl, e1 _ _ hwa, bu.wl, bu.ws, rfl⟩) (ea_cons (wi (ev_var rfl) ev_c ev_c (by decide) (by decide) bu.tol) (ea_cons (wi (ev_var rfl) ev_c ev_c (by decide) (by decide) bu.line) ea_nil))) (by show 3 ≤ 100000; decide)) fun p1 H1 hp1 e1 h1 => ?_
    refine q_asgL (xs := [.bl true, .bl true, .bl true] ++ [.bl true, .bl true]) (el_lst (ea_starL (er_of (ev_var rfl) fun H' e => ⟨p1, rfl, e _ _ h1⟩) (ea_cons (wi (ev_var rfl) (ev_op ev_c ev_c rv_I0) ev_c (by decide) (by decide) bu.hyp) (ea_cons (wi (ev_var rfl) ev_c ev_c (by decide) (by decide) bu.unl) ea_nil))) (by show 5 ≤ 100000; decide)) fun p2 H2 hp2 e2 h2 => ?_
    refine q_asgL (xs := ([.bl true, .bl true, .bl true] ++ [.bl true, .bl true]) ++ [.bl true, .bl true, .bl true]) (el_lst (ea_starL (er_of (ev_var rfl) fun H' e => ⟨p2, rfl, e _ _ h2⟩) (ea_cons (wi (ev_var rfl) ev_c ev_c (by decide) (by decide) bu.dbl) (ea_cons (wi (ev_var rfl) ev_c ev_c (by decide) (by decide) bu.last) (ea_cons (evRoom _ _ rfl) ea_nil)))) (by show 8 ≤ 100000; decide)) fun p3 H3 hp3 e3 h3 => ?_
    refine q_when (b := false) (et_is (et_or (a := false) (b := false) (et_not (a := true) (et_B (ev_is (ev_allR (bs := [true, true, true, true, true, true, true, true]) (er_of (ev_var rfl) fun H' e => ⟨p3, rfl, e _ _ h3⟩)) rfl))) fun _ => et_not (a := true) (et_B (wi (ev_var rfl) ev_c ev_c (by decide) (by decide) bu.loose))) rfl) (fun h => nomatch h) fun _ H4 e4 => ?_
    have E4 : Ex H H4 := ((e1.trans e2).trans e3).trans e4
    have X4 : Ex H0 H4 := hE.trans E4
    have W4 := E4 _ _ hwa
    have A4 := E4 _ _ ha
    have mutE : ∀ {H' : Hp} {o : HO}, Ex H0 H' → Ex H0 (upd H' a o) := fun h => Ex.mut h na
    have wne : wa ≠ a := ne_of hwa ha fun h => nomatch h
    refine q_fld (v := .ref wa) (ev_var rfl) (ev_var rfl) A4 RR.cl RR.nW (by show 0 < 1000; decide) fun G5 g5 => ?_
    have X5 := mutE (o := .ins cR dx (putF "own_widths" (.ref wa) [])) (X4.trans g5)
    have W5 : upd G5 a (.ins cR dx (putF "own_widths" (.ref wa) [])) wa = some (.tup (u.ws.map V.int)) := by rw [upd_ne wne]; exact g5 _ _ W4
    refine q_fld (v := .int u.tol) (ev_var rfl) (ev_var rfl) upd_same RR.cl RR.nT (by show 1 < 1000; decide) fun G6 g6 => ?_
    have X6 := mutE (o := .ins cR dx (putF "own_tolerance" (.int u.tol) (putF "own_widths" (.ref wa) []))) (X5.trans g6)
    have W6 : upd G6 a (.ins cR dx (putF "own_tolerance" (.int u.tol) (putF "own_widths" (.ref wa) []))) wa = some (.tup (u.ws.map V.int)) := by rw [upd_ne wne]; exact g6 _ _ W5
    refine q_fld (v := .int u.line) (ev_var rfl) (ev_var rfl) upd_same RR.cl RR.nL (by show 2 < 1000; decide) fun G7 g7 => ?_
    have X7 := mutE (o := .ins cR dx (putF "own_line" (.int u.line) (putF "own_tolerance" (.int u.tol) (putF "own_widths" (.ref wa) [])))) (X6.trans g7)
    have W7 : upd G7 a (.ins cR dx (putF "own_line" (.int u.line) (putF "own_tolerance" (.int u.tol) (putF "own_widths" (.ref wa) [])))) wa = some (.tup (u.ws.map V.int)) := by rw [upd_ne wne]; exact g7 _ _ W6
    refine q_fld (v := .int u.hyp) (ev_var rfl) (ev_var rfl) upd_same RR.cl RR.nH (by show 3 < 1000; decide) fun G8 g8 => ?_
    have X8 := mutE (o := .ins cR dx (putF "own_hyphen" (.int u.hyp) (putF "own_line" (.int u.line) (putF "own_tolerance" (.int u.tol) (putF "own_widths" (.ref wa) []))))) (X7.trans g8)
    have W8 : upd G8 a (.ins cR dx (putF "own_hyphen" (.int u.hyp) (putF "own_line" (.int u.line) (putF "own_tolerance" (.int u.tol) (putF "own_widths" (.ref wa) []))))) wa = some (.tup (u.ws.map V.int)) := by rw [upd_ne wne]; exact g8 _ _ W7
    refine q_fld (v := .int u.unl) (ev_var rfl) (ev_var rfl) upd_same RR.cl RR.nU (by show 4 < 1000; decide) fun G9 g9 => ?_
    have X9 := mutE (o := .ins cR dx (putF "own_unlike" (.int u.unl) (putF "own_hyphen" (.int u.hyp) (putF "own_line" (.int u.line) (putF "own_tolerance" (.int u.tol) (putF "own_widths" (.ref wa) [])))))) (X8.trans g9)
    have W9 : upd G9 a (.ins cR dx (putF "own_unlike" (.int u.unl) (putF "own_hyphen" (.int u.hyp) (putF "own_line" (.int u.line) (putF "own_tolerance" (.int u.tol) (putF "own_widths" (.ref wa) [])))))) wa = some (.tup (u.ws.map V.int)) := by rw [upd_ne wne]; exact g9 _ _ W8
    refine q_fld (v := .int u.dbl) (ev_var rfl) (ev_var rfl) upd_same RR.cl RR.nD (by show 5 < 1000; decide) fun G10 g10 => ?_
    have X10 := mutE (o := .ins cR dx (putF "own_double" (.int u.dbl) (putF "own_unlike" (.int u.unl) (putF "own_hyphen" (.int u.hyp) (putF "own_line" (.int u.line) (putF "own_tolerance" (.int u.tol) (putF "own_widths" (.ref wa) []))))))) (X9.trans g10)
    have W10 : upd G10 a (.ins cR dx (putF "own_double" (.int u.dbl) (putF "own_unlike" (.int u.unl) (putF "own_hyphen" (.int u.hyp) (putF "own_line" (.int u.line) (putF "own_tolerance" (.int u.tol) (putF "own_widths" (.ref wa) []))))))) wa = some (.tup (u.ws.map V.int)) := by rw [upd_ne wne]; exact g10 _ _ W9
    refine q_fld (v := .int u.last) (ev_var rfl) (ev_var rfl) upd_same RR.cl RR.nA (by show 6 < 1000; decide) fun G11 g11 => ?_
    have X11 := mutE (o := .ins cR dx (putF "own_last" (.int u.last) (putF "own_double" (.int u.dbl) (putF "own_unlike" (.int u.unl) (putF "own_hyphen" (.int u.hyp) (putF "own_line" (.int u.line) (putF "own_tolerance" (.int u.tol) (putF "own_widths" (.ref wa) [])))))))) (X10.trans g11)
    have W11 : upd G11 a (.ins cR dx (putF "own_last" (.int u.last) (putF "own_double" (.int u.dbl) (putF "own_unlike" (.int u.unl) (putF "own_hyphen" (.int u.hyp) (putF "own_line" (.int u.line) (putF "own_tolerance" (.int u.tol) (putF "own_widths" (.ref wa) [])))))))) wa = some (.tup (u.ws.map V.int)) := by rw [upd_ne wne]; exact g11 _ _ W10
    refine q_fld (v := .int u.room) (ev_var rfl) (ev_var rfl) upd_same RR.cl RR.nR (by show 7 < 1000; decide) fun G12 g12 => ?_
    have X12 := mutE (o := .ins cR dx (putF "own_room" (.int u.room) (putF "own_last" (.int u.last) (putF "own_double" (.int u.dbl) (putF "own_unlike" (.int u.unl) (putF "own_hyphen" (.int u.hyp) (putF "own_line" (.int u.line) (putF "own_tolerance" (.int u.tol) (putF "own_widths" (.ref wa) []))))))))) (X11.trans g12)
    have W12 : upd G12 a (.ins cR dx (putF "own_room" (.int u.room) (putF "own_last" (.int u.last) (putF "own_double" (.int u.dbl) (putF "own_unlike" (.int u.unl) (putF "own_hyphen" (.int u.hyp) (putF "own_line" (.int u.line) (putF "own_tolerance" (.int u.tol) (putF "own_widths" (.ref wa) []))))))))) wa = some (.tup (u.ws.map V.int)) := by rw [upd_ne wne]; exact g12 _ _ W11
    refine s_fld (v := .int u.loose) (ev_var rfl) (ev_var rfl) upd_same RR.cl RR.nO (by show 8 < 1000; decide) fun G13 g13 => ?_
    have X13 := mutE (o := .ins cR dx (putF "own_looseness" (.int u.loose) (putF "own_room" (.int u.room) (putF "own_last" (.int u.last) (putF "own_double" (.int u.dbl) (putF "own_unlike" (.int u.unl) (putF "own_hyphen" (.int u.hyp) (putF "own_line" (.int u.line) (putF "own_tolerance" (.int u.tol) (putF "own_widths" (.ref wa) [])))))))))) (X12.trans g13)
    have W13 : upd G13 a (.ins cR dx (putF "own_looseness" (.int u.loose) (putF "own_room" (.int u.room) (putF "own_last" (.int u.last) (putF "own_double" (.int u.dbl) (putF "own_unlike" (.int u.unl) (putF "own_hyphen" (.int u.hyp) (putF "own_line" (.int u.line) (putF "own_tolerance" (.int u.tol) (putF "own_widths" (.ref wa) [])))))))))) wa = some (.tup (u.ws.map V.int)) := by rw [upd_ne wne]; exact g13 _ _ W12
    exact k _ X13 ⟨a, dx, wa, rfl, upd_same, W13⟩
end
end K51
set_option Elab.async false
set_option linter.all false
set_option maxRecDepth 100000
set_option maxHeartbeats 4000000
namespace K51
open PySem PySem.Spec PyProof.Rows L2 Evl LamX
section
variable {K : PySem.W.Frag} {σ : L2.St} {H : Hp} {te : TE} {ta tk : TA} {D : Ends} {tz : TS} {v : V}
theorem rv_isN {x : V} : RV (fun x y H Q => y = .non ∧ Q (.bl (decide (x = .non))) H) x .non H (.bl (decide (x = .non))) := rv_val fun H1 e Q q => ⟨rfl, q⟩
theorem er_ifF {t : TT} {t1 t2 : TE} {R : V → Hp → Prop} (h : EvT t σ H false) (h2 : EvR t2 σ H R) : EvR (tIf t t1 t2) σ H R := fun H1 e Q q => h H1 e _ fun H2 e2 => by
  show t2 σ H2 Q
  exact h2 H2 (e.trans e2) Q fun v H3 e3 r => q v H3 (e2.trans e3) r
/-- a call that may let the tables grow -/
theorem v_calN {T : List (Addr × Str)} {f : List V → Hp → (V → Hp → Prop) → Prop} {R : V → Hp → Prop} {vs : List V} {Q : VK} (h : EvA ta σ H vs) (hf : ∀ H1, Ex H H1 → f vs H1 R) (hT : Tabs T H) (k : ∀ v H1, ExtN H H1 → Tabs T H1 → R v H1 → Q v H1) : tCall (spN T f) [] E0 ta σ H Q :=
  h H (Ex.refl H) _ fun H1 e1 => ⟨R, by rw [List.append_nil]; exact hf H1 e1, hT.ext e1, fun v H2 e2 t r => k v H2 ((K51.ExtN.ofEx e1).trans e2) t r⟩
theorem q_calN {T : List (Addr × Str)} {f : List V → Hp → (V → Hp → Prop) → Prop} {R : V → Hp → Prop} {vs : List V} {i : Nat} (h : EvA ta σ H vs) (hf : ∀ H1, Ex H H1 → f vs H1 R) (hT : Tabs T H) (k : ∀ v H1, ExtN H H1 → Tabs T H1 → R v H1 → tz D (σ.set i (some v)) H1) : tSeq (tAsg (tCall (spN T f) [] E0 ta) (gName i)) tz D σ H := v_calN h hf hT k
/-- f(.., k = v) -/
theorem v_calNK {T : List (Addr × Str)} {f : List V → Hp → (V → Hp → Prop) → Prop} {R : V → Hp → Prop} {vs zs ws : List V} {n m : Nat} {gV : List V → List V → List V} {Q : VK} (h : EvA ta σ H vs) (h2 : EvA tk σ H zs) (l1 : vs.length = n) (l2 : zs.length = m) (hg : gV vs zs = ws) (hf : ∀ H1, Ex H H1 → f ws H1 R) (hT : Tabs T H)
    (k : ∀ v H1, ExtN H H1 → Tabs T H1 → R v H1 → Q v H1) : tCallN n m (spN T f) gV E0 ta tk σ H Q :=
  h H (Ex.refl H) _ fun H1 e1 => h2 H1 e1 _ fun H2 e2 => ⟨l1, l2, R, by rw [hg]; exact hf H2 (e1.trans e2), hT.ext (e1.trans e2), fun v H3 e3 t r => k v H3 ((K51.ExtN.ofEx (e1.trans e2)).trans e3) t r⟩
/-- .. with defaults -/
theorem v_calND {T : List (Addr × Str)} {f : List V → Hp → (V → Hp → Prop) → Prop} {R : V → Hp → Prop} {vs dvs : List V} {Q : VK} (h : EvA ta σ H vs) (hf : ∀ H1, Ex H H1 → f (vs ++ dvs) H1 R) (hT : Tabs T H) (k : ∀ v H1, ExtN H H1 → Tabs T H1 → R v H1 → Q v H1) : tCall (spN T f) dvs E0 ta σ H Q :=
  h H (Ex.refl H) _ fun H1 e1 => ⟨R, hf H1 e1, hT.ext e1, fun v H2 e2 t r => k v H2 ((K51.ExtN.ofEx e1).trans e2) t r⟩
end
section
variable {P : Program} {w : World} {K : PySem.W.Frag} {mg : Str → Option Value} {base : Heap} {cG cR cL aF cC Pt : Addr}
abbrev st_least_breaks : Stmt := top 73
def nm_least_breaks : List Str := ["row", "rules", "wrong", "found", "told"]
theorem sc_least_breaks : FnScope nm_least_breaks ["row", "rules", "wrong"] (defScope st_least_breaks) := ⟨rfl, rfl, rfl, by decide +kernel, rfl, by decide +kernel, by decide +kernel⟩
abbrev LeastFun (K : PySem.W.Frag) (f : Addr) (fd : FuncData) : Prop := FunD K "least_breaks" "least_breaks" (defArgs st_least_breaks) (defBody st_least_breaks) (defScope st_least_breaks) [] [("wrong", .bl false)] f fd
theorem least_kA {f : Addr} {fd : FuncData} (F : LeastFun K f fd) : ∃ mv : List Value, KBn K fd ["row", "rules", "wrong"] 2 ["wrong"] (fun us ws => gA us mv ws) (fun vs zs => gA vs [] zs) := by
  refine F.kbinds0 2 _ [] gA (by decide) (fun q h => absurd h List.not_mem_nil) (fun r1 r2 r3 => (r1.append r3).append r2) fun D doc pm an cdv ct us mv ws h1 h2 h3 => ?_
  match us, h1, mv, h2, ws, h3 with
  | [a, b], _, [], _, [x1], _ => exact rfl
theorem least_kD {f : Addr} {fd : FuncData} (F : LeastFun K f fd) : ∃ ds, Vals [.bl false] ds ∧ Binds K fd ["row", "rules", "wrong"] ds := by
  refine F.binds0 2 (by decide) (by rfl) fun D doc pm an cdv ct us ws h1 h2 => ?_
  match us, h1, ws, h2 with
  | [a, b], _, [m0], _ => exact ⟨_, _, _, _, _, _, rfl, rfl, rfl⟩
def fLeast (cG cR : Addr) : List V → Hp → (V → Hp → Prop) → Prop := fun vs H R => ∃ (x : V) (b : Addr) (r : Row) (u : Ru) (wr : Bool), vs = [x, .ref b, .bl wr] ∧ RowAt cG H x r ∧ RulesAt cR H (.ref b) u ∧ Bd r u ∧
  R = fun v H2 => (endsOf r (allNodes r u wr) = [] ∧ v = .non) ∨ ∃ base many least wy, Told r u (allNodes r u wr) base many least ∧ Path r u wr least (costAt (allNodes r u wr) least) wy ∧ TupAt H2 v (wy.map V.int)
def sp_least (cG cR Pt : Addr) : Sp := spN (Tt Pt) (fLeast cG cR)
theorem ok_least_breaks (T : Tx K mg cG cR cL aF) (KF : KFst K aF) {f : Addr} {fd : FuncData} (F : LeastFun K f fd) (c_require_wrong : Cal P w K mg base "require_wrong" ["row", "rules", "wrong"] 6 (sp_require_wrong cG cR)) (c_all_nodes : Cal P w K mg base "all_nodes" ["row", "rules", "wrong"] 8 (sp_all_nodes P w cG cR aF))
    (c_told_nodes : Cal P w K mg base "told_nodes" ["row", "rules", "found"] 5 (sp_told P w cG cR aF Pt)) (c_way_to : Cal P w K mg base "way_to" ["found", "node"] 1 (sp_way_to P w aF)) : FnOk P w K mg base CX0 9 f fd ["row", "rules", "wrong"] (sp_least cG cR Pt) := by
  refine F.ok sc_least_breaks (fun vs H Q E h => ?_) (fun cdv A outer s H vs Q E hr h => ?_)
  · obtain ⟨R, ⟨x, b, r, u, wr, rfl, _⟩, _⟩ := h
    rfl
  · obtain ⟨R, ⟨x, b, r, u, wr, rfl, hx, hu, hbd, rfl⟩, hT, k⟩ := h
    refine ⟨_, PSs.nox (pss_cons (ps_expr (pe_cal c_require_wrong (hr.mono (by decide)) (pa_cons (pv 0) (pa_cons (pv 1) (pa_cons (pv 2) pa_nil)))))
      (pss_cons (ps_set (i := 3) sc_least_breaks.nd rfl (Or.inl rfl) (pe_cal c_all_nodes (hr.mono (by decide)) (pa_cons (pv 0) (pa_cons (pv 1) (pa_cons (pv 2) pa_nil)))))
      (pss_cons (ps_set (i := 4) sc_least_breaks.nd rfl (Or.inl rfl) (pe_cal c_told_nodes (hr.mono (by decide)) (pa_cons (pv 0) (pa_cons (pv 1) (pa_cons (pv 3) pa_nil)))))
      (pss_one (ps_ret (pe_ifExp (pt_cmpR op_isN (pv 4) pe_non (nomark _)) pe_non (pe_cal c_way_to (hr.mono (by decide)) (pa_cons (pv 3) (pa_cons (pe_ix ix_tup (pv 4) pe_int (fun _ _ => rfl)) pa_nil))))))))), ?_⟩
    refine q_drop (v := .non) (ev_calV (ea_cons (ev_var rfl) (ea_cons (ev_var rfl) (ea_cons (ev_var rfl) ea_nil))) fun H1 e1 => ⟨x, .ref b, r, u, wr, rfl, hx.mono e1, hu.mono e1, hbd, rfl⟩) fun H1 e1 => ?_
    refine q_asgR (ev_calR (ea_cons (ev_var rfl) (ea_cons (ev_var rfl) (ea_cons (ev_var rfl) ea_nil))) fun H2 e2 => ⟨x, b, r, u, wr, rfl, hx.mono (e1.trans e2), hu.mono (e1.trans e2), hbd, rfl⟩) fun fv H2 e2 hfv => ?_
    obtain ⟨fa, es, rfl, hfa, hfr⟩ := hfv
    have hfd := all_fdok r u wr
    obtain ⟨Pm, j⟩ := all_j r u wr
    refine q_calN (ea_cons (ev_var rfl) (ea_cons (ev_var rfl) (ea_cons (ev_var rfl) ea_nil))) (fun H3 e3 => ⟨x, b, fa, es, r, u, allNodes r u wr, rfl, hx.mono ((e1.trans e2).trans e3), hu.mono ((e1.trans e2).trans e3), e3 _ _ hfa, hfr.monoT (.of e3), hfd, hbd.len, rfl⟩) (hT.ext (e1.trans e2)) fun tv H3 e3 hT3 htv => ?_
    have n3 : ExtN H H3 := (K51.ExtN.ofEx (e1.trans e2)).trans e3
    rcases htv with ⟨h1, rfl⟩ | ⟨bs, many, least, v0, v1, htold, ⟨ta, rfl, hta⟩, hnl⟩
    · exact s_ret (ev_if (b := true) (et_is (et_test (ev_op (ev_var rfl) ev_c rv_isN)) (decide_eq_true rfl)) (fun _ => ev_c) fun h => nomatch h) fun H4 e4 => k _ H4 (n3.trans (K51.ExtN.ofEx e4)) (hT3.ext e4) (.inl ⟨h1, rfl⟩)
    · have hlk : least ∈ keysOf (allNodes r u wr) := (nodesK_mem htold.l1.1).1
      obtain ⟨⟨c, o⟩, hv⟩ := Option.isSome_iff_exists.mp (fget_isSome.mpr hlk)
      obtain ⟨wy, hch, hpath⟩ := chain_of j (least.p + 1).toNat least (c, o) hv (by have := (hfd.ok _ hlk).pb; omega)
      have hc : costAt (allNodes r u wr) least = c := by
        unfold costAt
        rw [hv]
      obtain ⟨_, _, hp1, hp2⟩ := hpath.good
      have hl12 := hbd.len
      have hpb := (hfd.ok _ hlk).pb
      have hfa3 := e3 _ _ hfa fun _ h => nomatch h
      have hfr3 : FdR aF H3 es (allNodes r u wr) := FdR.monoT (ExT.ofN e3) hfr
      refine s_retR (er_ifF (et_is (et_test (ev_op (ev_var rfl) ev_c rv_isN)) (decide_eq_false fun h => nomatch h)) (ev_calR (ea_cons (ev_var rfl) (ea_cons (ev_ixT (ev_var rfl) ev_c hta at1) ea_nil)) fun H4 e4 => ⟨fa, es, allNodes r u wr, v1, least, wy, rfl, e4 _ _ hfa3, hfr3.monoT (.of e4), hnl.mono e4, hch, by omega, rfl⟩)) fun v H4 e4 hv4 => k _ H4 (n3.trans (K51.ExtN.ofEx e4)) (hT3.ext e4) (.inr ⟨bs, many, least, wy, htold, by rw [hc]; exact hpath, hv4⟩)
end
end K51
set_option Elab.async false
set_option linter.all false
set_option maxRecDepth 100000
set_option maxHeartbeats 4000000
namespace K51
open PySem PySem.Spec PyProof.Rows L2 Evl LamX
/-! ### the law's dice -/
def DiceH (H : Hp) (d : Addr) : Prop := ∃ l0 l1 l2 : Int, H d = some (.lst [.int l0, .int l1, .int l2])
/-- all but d stays -/
def XD (d : Addr) (H H' : Hp) : Prop := ∀ a o, a ≠ d → H a = some o → H' a = some o
theorem XD.refl (d : Addr) (H : Hp) : XD d H H := fun _ _ _ h => h
theorem XD.of {d : Addr} {H H' : Hp} (e : Ex H H') : XD d H H' := fun a o _ h => e a o h
theorem XD.trans {d : Addr} {H H1 H2 : Hp} (a : XD d H H1) (b : XD d H1 H2) : XD d H H2 := fun c o n h => b c o n (a c o n h)
theorem XD.upd {d : Addr} {H : Hp} {o : HO} : XD d H (L2.upd H d o) := fun a u n h => by rw [upd_ne n]; exact h
theorem DiceH.mono {d : Addr} {H H' : Hp} (e : Ex H H') (h : DiceH H d) : DiceH H' d := by
  obtain ⟨a, b, c, h⟩ := h
  exact ⟨a, b, c, e _ _ h⟩
/-- a promise of a def that rolls the dice, its first argument -/
def spDice (f : Addr → List V → Hp → (V → Hp → Prop) → Prop) : Sp := fun vs H Q _ => ∃ (d : Addr) (ws : List V) (R : V → Hp → Prop), vs = .ref d :: ws ∧ DiceH H d ∧ f d ws H R ∧ ∀ v H2, XD d H H2 → DiceH H2 d → R v H2 → Q v H2
section
variable {K : PySem.W.Frag} {σ : L2.St} {H : Hp} {ta : TA} {te : TE} {v : V}
theorem v_dice {f : Addr → List V → Hp → (V → Hp → Prop) → Prop} {R : V → Hp → Prop} {d : Addr} {ws : List V} {Q : VK} (h : EvA ta σ H (.ref d :: ws)) (hd : DiceH H d) (hf : ∀ H1, Ex H H1 → f d ws H1 R) (k : ∀ v H1, XD d H H1 → DiceH H1 d → R v H1 → Q v H1) : tCall (spDice f) [] E0 ta σ H Q :=
  h H (Ex.refl H) _ fun H1 e1 => ⟨d, ws, R, by rw [List.append_nil], hd.mono e1, hf H1 e1, fun v H2 x2 d2 r => k v H2 ((XD.of e1).trans x2) d2 r⟩
theorem fmod_bd {i j : Int} (h : 0 < j) : 0 ≤ i.fmod j ∧ i.fmod j < j := by
  rw [Int.fmod_eq_emod_of_nonneg i (by omega)]
  exact ⟨Int.emod_nonneg i (by omega), Int.emod_lt_of_pos i h⟩
end
section
variable {P : Program} {w : World} {K : PySem.W.Frag} {mg : Str → Option Value} {base : Heap} {cG cR cL aF cC Pt : Addr}
abbrev st_law_roll : Stmt := top 76
def nm_law_roll : List Str := ["_law_dice_here", "_law_total", "_law_found", "_law_one", "_law_two"]
theorem sc_law_roll : FnScope nm_law_roll ["_law_dice_here", "_law_total"] (defScope st_law_roll) := ⟨rfl, rfl, rfl, by decide +kernel, rfl, by decide +kernel, by decide +kernel⟩
def fRoll : Addr → List V → Hp → (V → Hp → Prop) → Prop := fun _ vs _ R => ∃ n : Int, vs = [.int n] ∧ (0 < n ∧ n < 1000) ∧ R = fun v _ => ∃ i : Int, v = .int i ∧ 0 ≤ i ∧ i < n
theorem ok_law_roll (T : Tx K mg cG cR cL aF) (D : DefAt K mg "_law_roll" "_law_roll" "_law_roll" st_law_roll) : Cal P w K mg base "_law_roll" ["_law_dice_here", "_law_total"] 1 (spDice fRoll) := by
  refine cal_of D sc_law_roll (fun _ _ _ _ _ _ us hl => match us, hl with | [_, _], _ => rfl) (fun vs H Q E h => ?_) (fun f cdv A outer s H vs Q E hr h => ?_)
  · obtain ⟨d, ws, R, rfl, _, ⟨n, rfl, _⟩, _⟩ := h
    rfl
  · obtain ⟨d, ws, R, rfl, ⟨l0, l1, l2, hd⟩, ⟨n, rfl, hn, rfl⟩, k⟩ := h
    refine ⟨_, (pss_cons (ps_if (pt_cmpR op_gt (pe_ix ix_list (pv 0) pe_int (fun _ _ => rfl)) pe_int (nomark _)) (pss_cons (ps_set (i := 2) sc_law_roll.nd rfl (Or.inl rfl) (pe_op op_modN (pe_callTy call_int1 (by rfl) T.int_ (by decide +kernel) (pa_cons (pe_ix ix_list (pv 0) pe_int (fun _ _ => rfl)) pa_nil)) (pv 1)))
      (pss_cons (ps_asg (pe_op op_fdiv (pe_ix ix_list (pv 0) pe_int (fun _ _ => rfl)) (pv 1)) (pg_sub (pv 0) pe_int set_list))
      (pss_one (ps_ret (pv 2))))) pss_nil)
      (pss_cons (ps_asg (pe_op op_add (pe_ix ix_list (pv 0) pe_int (fun _ _ => rfl)) pe_int) (pg_sub (pv 0) pe_int set_list))
      (pss_cons (ps_set (i := 3) sc_law_roll.nd rfl (Or.inl rfl) (pe_op op_modN (pe_callTy call_int1 (by rfl) T.int_ (by decide +kernel) (pa_cons (pe_op op_add (pe_ix ix_list (pv 0) pe_int (fun _ _ => rfl)) (pe_op op_mul pe_int (pe_ix ix_list (pv 0) pe_int (fun _ _ => rfl)))) pa_nil)) pe_int))
      (pss_cons (ps_set (i := 4) sc_law_roll.nd rfl (Or.inl rfl) (pe_op op_add (pe_op op_mul (pe_op op_modN (pe_callTy call_int1 (by rfl) T.int_ (by decide +kernel) (pa_cons (pe_op op_add (pe_op op_mul (pv 3) (pv 3)) (pe_op op_mul pe_int (pe_ix ix_list (pv 0) pe_int (fun _ _ => rfl)))) pa_nil)) pe_int) pe_int) (pv 3)))
      (pss_one (ps_ret (pe_op op_modN (pe_callTy call_int1 (by rfl) T.int_ (by decide +kernel) (pa_cons (pe_op op_fdiv (pv 4) pe_int) pa_nil)) (pv 1)))))))), ?_⟩
    refine q_if (b := decide (0 < l0)) (et_test (ev_op (ev_ixL (ev_var rfl) ev_c hd at0) ev_c rv_I0)) (fun hb H1 e1 => ?_) (fun hb H1 e1 => ?_)
    · have hd1 := e1 _ _ hd
      refine q_asg (ev_op (ev_int (ev_ixL (ev_var rfl) ev_c hd1 at0)) (ev_var rfl) (rv_I (by omega))) fun H2 e2 => ?_
      have hd2 := e2 _ _ hd1
      refine q_setL (j := 0) hd2 (ev_op (ev_ixL (ev_var rfl) ev_c hd2 at0) (ev_var rfl) (rv_I ⟨hn.1, by omega⟩)) (ev_var rfl) ev_c (by show 0 < 3; decide) fun H3 e3 => ?_
      refine s_ret (ev_var rfl) fun H4 e4 => ?_
      have b := fmod_bd (i := l0) hn.1
      exact k _ H4 (((XD.of ((e1.trans e2).trans e3)).trans XD.upd).trans (.of e4)) ⟨_, _, _, e4 _ _ upd_same⟩ ⟨_, rfl, b⟩
    · have hd1 := e1 _ _ hd
      refine q_setL (j := 2) hd1 (ev_op (ev_ixL (ev_var rfl) ev_c hd1 at2) ev_c rv_I0) (ev_var rfl) ev_c (by show 2 < 3; decide) fun H2 e2 => ?_
      have hd2 : upd H2 d (.lst [.int l0, .int l1, .int (l2 + 1)]) d = some (.lst [.int l0, .int l1, .int (l2 + 1)]) := upd_same
      refine q_asg (ev_op (ev_int (ev_op (ev_ixL (ev_var rfl) ev_c hd2 at1) (ev_op ev_c (ev_ixL (ev_var rfl) ev_c hd2 at2) (rv_I (.inl ⟨by decide, by decide⟩))) rv_I0)) ev_c (rv_I (by decide))) fun H3 e3 => ?_
      have hd3 := e3 _ _ hd2
      have b1 := fmod_bd (i := l1 + 49979737 * (l2 + 1)) (j := 2305843009213693577) (by decide)
      generalize Int.fmod (l1 + 49979737 * (l2 + 1)) 2305843009213693577 = one at b1
      refine q_asg (ev_op (ev_op (ev_op (ev_int (ev_op (ev_op (ev_var rfl) (ev_var rfl) (rv_I (.inl ⟨by omega, by omega⟩))) (ev_op ev_c (ev_ixL (ev_var rfl) ev_c hd3 at2) (rv_I (.inl ⟨by decide, by decide⟩))) rv_I0)) ev_c (rv_I (by decide))) ev_c (rv_I (.inr ⟨by decide, by decide⟩))) (ev_var rfl) rv_I0) fun H4 e4 => ?_
      refine s_ret (ev_op (ev_int (ev_op (ev_var rfl) ev_c (rv_I ⟨by decide, by decide⟩))) (ev_var rfl) (rv_I (by omega))) fun H5 e5 => ?_
      exact k _ H5 (((XD.of (e1.trans e2)).trans XD.upd).trans (.of ((e3.trans e4).trans e5))) ⟨_, _, _, e5 _ _ (e4 _ _ hd3)⟩ ⟨_, rfl, fmod_bd hn.1⟩
abbrev st_law_pick : Stmt := top 77
def nm_law_pick : List Str := ["_law_dice_here", "_law_items"]
theorem sc_law_pick : FnScope nm_law_pick ["_law_dice_here", "_law_items"] (defScope st_law_pick) := ⟨rfl, rfl, rfl, by decide +kernel, rfl, by decide +kernel, by decide +kernel⟩
def fPick : Addr → List V → Hp → (V → Hp → Prop) → Prop := fun d vs H R => ∃ (l : Addr) (ns : List Int), vs = [.ref l] ∧ H l = some (.lst (ns.map V.int)) ∧ l ≠ d ∧ (0 < ns.length ∧ ns.length < 1000) ∧ R = fun v _ => ∃ i ∈ ns, v = .int i
theorem ok_law_pick (T : Tx K mg cG cR cL aF) (D : DefAt K mg "_law_pick" "_law_pick" "_law_pick" st_law_pick) (c_law_roll : Cal P w K mg base "_law_roll" ["_law_dice_here", "_law_total"] 1 (spDice fRoll)) : Cal P w K mg base "_law_pick" ["_law_dice_here", "_law_items"] 2 (spDice fPick) := by
  refine cal_of D sc_law_pick (fun _ _ _ _ _ _ us hl => match us, hl with | [_, _], _ => rfl) (fun vs H Q E h => ?_) (fun f cdv A outer s H vs Q E hr h => ?_)
  · obtain ⟨d, ws, R, rfl, _, ⟨l, n, rfl, _⟩, _⟩ := h
    rfl
  · obtain ⟨d, ws, R, rfl, hd, ⟨l, ns, rfl, hl, hne, hn, rfl⟩, k⟩ := h
    refine ⟨_, (pss_one (ps_ret (pe_ix ix_list (pv 1) (pe_cal c_law_roll (hr.mono (by decide)) (pa_cons (pv 0) (pa_cons (pe_callB call_len_seq (by rfl) T.len_ (by decide +kernel) (pa_cons (pv 1) pa_nil)) pa_nil))) (fun _ _ => rfl)))), ?_⟩
    have hll : (ns.map V.int).length = ns.length := List.length_map ..
    refine ⟨_, rfl, v_dice (R := fun v _ => ∃ i : Int, v = .int i ∧ 0 ≤ i ∧ i < (ns.length : Int)) (ea_cons (ev_var rfl) (ea_cons (ev_is (ev_lenS (ev_var rfl) (.inl (sq_of hl))) (by rw [hll])) ea_nil)) hd (fun H1 e1 => ⟨_, rfl, by omega, rfl⟩) fun v H1 x1 d1 hv => ?_⟩
    obtain ⟨i, rfl, h0, h1⟩ := hv
    obtain ⟨z, hz⟩ : ∃ z, ns[i.toNat]? = some z := ⟨_, List.getElem?_eq_getElem (by omega)⟩
    have ha : atI (ns.map V.int) i = some (.int z) := at_of (j := i.toNat) (by omega) (by rw [List.getElem?_map, hz]; rfl)
    exact ⟨l, _, i, .int z, rfl, rfl, sq_of (x1 _ _ hne hl), ha, k _ _ x1 d1 ⟨z, List.mem_of_getElem? hz, rfl⟩⟩
abbrev st_law_units_wide : Stmt := top 78
def nm_law_units_wide : List Str := ["_law_dice_here", "_law_most"]
theorem sc_law_units_wide : FnScope nm_law_units_wide ["_law_dice_here", "_law_most"] (defScope st_law_units_wide) := ⟨rfl, rfl, rfl, by decide +kernel, rfl, by decide +kernel, by decide +kernel⟩
theorem ok_law_units_wide (T : Tx K mg cG cR cL aF) (D : DefAt K mg "_law_units_wide" "_law_units_wide" "_law_units_wide" st_law_units_wide) (c_law_roll : Cal P w K mg base "_law_roll" ["_law_dice_here", "_law_total"] 1 (spDice fRoll)) :
    Cal P w K mg base "_law_units_wide" ["_law_dice_here", "_law_most"] 2 (spDice fun _ vs _ R => ∃ n : Int, vs = [.int n] ∧ (0 ≤ n ∧ n < 900) ∧ R = fun v _ => ∃ i : Int, v = .int i ∧ 0 ≤ i ∧ i ≤ n) := by
  refine cal_of D sc_law_units_wide (fun _ _ _ _ _ _ us hl => match us, hl with | [_, _], _ => rfl) (fun vs H Q E h => ?_) (fun f cdv A outer s H vs Q E hr h => ?_)
  · obtain ⟨d, ws, R, rfl, _, ⟨n, rfl, _⟩, _⟩ := h
    rfl
  · obtain ⟨d, ws, R, rfl, hd, ⟨n, rfl, hn, rfl⟩, k⟩ := h
    refine ⟨_, (pss_one (ps_ret (pe_cal c_law_roll (hr.mono (by decide)) (pa_cons (pv 0) (pa_cons (pe_op op_add (pv 1) pe_int) pa_nil))))), ?_⟩
    refine v_dice (ea_cons (ev_var rfl) (ea_cons (ev_op (ev_var rfl) ev_c rv_I0) ea_nil)) hd (fun H1 e1 => ⟨n + 1, rfl, by omega, rfl⟩) fun v H1 x1 d1 hv => ?_
    obtain ⟨i, rfl, h0, h1⟩ := hv
    exact k _ _ x1 d1 ⟨i, rfl, h0, by omega⟩
abbrev st_law_dice : Stmt := top 75
def nm_law_dice : List Str := ["_law_script", "_law_spot", "_law_cell", "_law_left"]
theorem sc_law_dice : FnScope nm_law_dice ["_law_script", "_law_spot"] (defScope st_law_dice) := ⟨rfl, rfl, rfl, by decide +kernel, rfl, by decide +kernel, by decide +kernel⟩
def sp_law_dice (K : PySem.W.Frag) : Sp := fun vs H Q _ => ∃ (a : Addr) (ns : List Int) (i : Nat), vs = [.ref a, .int (i : Int)] ∧ SqL K H a (ns.map V.int) ∧ ∀ d H2, H d = none → Ex H H2 → DiceH H2 d → Q (.ref d) H2
theorem ok_law_dice (T : Tx K mg cG cR cL aF) (D : DefAt K mg "_law_dice" "_law_dice" "_law_dice" st_law_dice) : Cal P w K mg base "_law_dice" ["_law_script", "_law_spot"] 1 (sp_law_dice K) := by
  refine cal_of D sc_law_dice (fun _ _ _ _ _ _ us hl => match us, hl with | [_, _], _ => rfl) (fun vs H Q E h => ?_) (fun f cdv A outer s H vs Q E hr h => ?_)
  · obtain ⟨a, ns, i, rfl, _⟩ := h
    rfl
  · obtain ⟨a, ns, i, rfl, ha, k⟩ := h
    refine ⟨_, (pss_cons (ps_set (i := 2) sc_law_dice.nd rfl (Or.inl rfl) (pe_ifExp (pt_cmpR op_lt (pv 1) (pe_callB call_len_seq (by rfl) T.len_ (by decide +kernel) (pa_cons (pv 0) pa_nil)) (nomark _)) (pe_callTy call_int1 (by rfl) T.int_ (by decide +kernel) (pa_cons (pe_ix ix_list (pv 0) (pv 1) (fun _ _ => rfl)) pa_nil)) (pe_op op_add (pe_op op_mul pe_int (pv 1)) pe_int)))
      (pss_cons (ps_set (i := 3) sc_law_dice.nd rfl (Or.inl rfl) (pe_op op_modN (pe_callB (call_max2 rfl) (by rfl) T.max_ (by decide +kernel) (pa_cons pe_int (pa_cons (pe_op op_sub (pe_callB call_abs (by rfl) T.abs_ (by decide +kernel) (pa_cons (pv 2) pa_nil)) (pe_op op_pow pe_int pe_int)) pa_nil))) (pe_op op_mulX (pe_op op_pow pe_int pe_int) (pe_op op_pow pe_int pe_int))))
      (pss_one (ps_ret (pe_lst (pa_cons (pv 3) (pa_cons (pe_op op_add (pe_op op_add (pe_op op_add (pe_op op_mul (pe_op op_modN (pe_callB call_abs (by rfl) T.abs_ (by decide +kernel) (pa_cons (pv 2) pa_nil)) pe_int) pe_int) (pe_op op_mul pe_int (pv 1))) (pe_op op_mul pe_int (pe_callTy call_int1 (by rfl) T.int_ (by decide +kernel) (pa_cons (pe_cmpR op_lt (pv 2) pe_int (nomark _)) pa_nil)))) pe_int) (pa_cons pe_int pa_nil)))))))), ?_⟩
    have hll : (ns.map V.int).length = ns.length := List.length_map ..
    refine q_asg (v := .int (if i < ns.length then ns.getD i 0 else 59 * (i : Int) + 23)) (ev_if (b := decide (i < ns.length)) (et_is (et_test (ev_op (ev_var rfl) (ev_lenS (ev_var rfl) (.inl ha)) rv_I0)) (by rw [hll, Bool.eq_iff_iff, decide_eq_true_iff, decide_eq_true_iff]; omega)) (fun hb => ?_) fun hb => ?_) fun H1 e1 => ?_
    · have hb := of_decide_eq_true hb
      rw [if_pos hb]
      have hz : ns[i]? = some (ns.getD i 0) := by rw [List.getD_eq_getElem?_getD, List.getElem?_eq_getElem hb]; rfl
      exact ev_int (ev_op (ev_var rfl) (ev_var rfl) (rv_ixL ha (atI_nat (by rw [List.getElem?_map, hz]; rfl))))
    · have hb := of_decide_eq_false hb
      rw [if_neg hb]
      exact ev_op (ev_op ev_c (ev_var rfl) (rv_I (.inl ⟨by decide, by decide⟩))) ev_c rv_I0
    generalize (if i < ns.length then ns.getD i 0 else 59 * (i : Int) + 23) = cell
    refine q_asg (ev_op (ev_max2' ev_c (ev_op (ev_abs (ev_var rfl)) (ev_op ev_c ev_c (rv_I ⟨by decide, by decide, by decide⟩)) rv_I0)) (ev_op (ev_op ev_c ev_c (rv_I ⟨by decide, by decide, by decide⟩)) (ev_op ev_c ev_c (rv_I ⟨by decide, by decide, by decide⟩)) (rv_I (mulx_ok (a := 300) (b := 300) (by decide +kernel) (by decide +kernel) (by decide)))) (rv_I (by decide +kernel))) fun H2 e2 => ?_
    refine s_retL (el_lst (ea_cons (ev_var rfl) (ea_cons (ev_op (ev_op (ev_op (ev_op (ev_op (ev_abs (ev_var rfl)) ev_c (rv_I (by decide))) ev_c (rv_I (.inr ⟨by decide, by decide⟩))) (ev_op ev_c (ev_var rfl) (rv_I (.inl ⟨by decide, by decide⟩))) rv_I0) (ev_op ev_c (ev_intB (ev_op (ev_var rfl) ev_c rv_I0)) (rv_I (.inl ⟨by decide, by decide⟩))) rv_I0) ev_c rv_I0) (ea_cons ev_c ea_nil))) (by show 3 ≤ 100000; decide)) fun p H3 hp e3 h3 => k p H3 (fresh_back (e1.trans e2) hp) ((e1.trans e2).trans e3) ⟨_, _, _, h3⟩
end
end K51
set_option Elab.async false
set_option linter.all false
set_option maxRecDepth 100000
set_option maxHeartbeats 4000000
namespace K51
open PySem PySem.Spec PyProof.Rows L2 Evl LamX
section
variable {K : PySem.W.Frag} {σ : L2.St} {H : Hp} {tl td ty : TE} {D : Ends} {tz tu : TS}
/-- for i, x in enumerate(xs) -/
theorem q_forE {a : Addr} {xs : List V} {m n : Nat} (h : Ev tl σ H (.ref a)) (hx : SqL K H a xs) (Pv : Nat → L2.St → Hp → Prop) (h0 : ∀ H1, Ex H H1 → Pv 0 σ H1) (hl : ∀ i σ' H', i ≤ xs.length → Pv i σ' H' → SqL K H' a xs)
    (hs : ∀ i x σ' H' H2, xs[i]? = some x → Pv i σ' H' → Ex H' H2 → tu { D with nx := Pv (i + 1), ct := Pv (i + 1), bk := tz D } ((σ'.set m (some (.int (i : Int)))).set n (some x)) H2) (hd : ∀ σ' H', Pv xs.length σ' H' → tz D σ' H') :
    tSeq (tFor (iEnum K (tCons tl tNil)) (gTup K 2 (gCons (gName m) (gCons (gName n) gNil))) tu) tz D σ H :=
  h H (Ex.refl H) _ fun H1 e1 => ⟨a, xs, rfl, ex_l e1 hx, fun i m' σ' H' => m' = xs.length - i ∧ i ≤ xs.length ∧ Pv i σ' H', ⟨xs.length, by simp, Nat.zero_le _, h0 H1 e1⟩, by
    rintro i m' σ' H' ⟨rfl, hi, p⟩
    have q := hl i σ' H' hi p
    by_cases hlt : i < xs.length
    · refine .inr ⟨⟨xs, xs[i], q, by simp [hlt]⟩, Pv (i + 1), fun σ2 H2 p' => ⟨xs.length - (i + 1), by omega, rfl, hlt, p'⟩, fun x H2 y => ?_⟩
      obtain ⟨T, z, rfl, hT, rfl, hz⟩ := y
      exact ⟨T, _, rfl, st_of upd_same, rfl, _, _, rfl, _, _, rfl, rfl, hs i z σ' H' _ (hz xs q) p (Ex.new hT)⟩
    · refine .inl ⟨⟨xs, q, by omega⟩, ?_⟩
      have e : i = xs.length := by omega
      rw [e] at p
      exact hd σ' H' p⟩
theorem ev_dget {a : Addr} {kvs : List (Key × V)} {k : Key} {v : V} (h1 : Ev td σ H (.ref a)) (h2 : Ev ty σ H (kV k)) (hd : H a = some (.dK kvs)) (hv : valV kvs k = some v) : Ev (tDGet td ty) σ H v := fun H1 e Q q =>
  h1 H1 e _ fun H2 e2 => h2 H2 (e.trans e2) _ fun H3 e3 => ⟨a, v, rfl, .inl ⟨kvs, k, .inl (((e.trans e2).trans e3) _ _ hd), rfl, hv.symm⟩, q H3 (e2.trans e3)⟩
end
def It.penV : It → Int
  | .pen p => p
  | _ => 0
/-! ### the law's rules: a dict -/
structure RDict (H : Hp) (kvs : List (Key × V)) (u : Ru) : Prop where
  wid : ∃ wa, valV kvs (.inr "widths") = some (.ref wa) ∧ H wa = some (.tup (u.ws.map V.int))
  tol : valV kvs (.inr "tolerance") = some (.int u.tol)
  line : valV kvs (.inr "line") = some (.int u.line)
  hyp : valV kvs (.inr "hyphen") = some (.int u.hyp)
  unl : valV kvs (.inr "unlike") = some (.int u.unl)
  dbl : valV kvs (.inr "double") = some (.int u.dbl)
  last : valV kvs (.inr "last") = some (.int u.last)
  room : valV kvs (.inr "room") = some (.int u.room)
  loose : valV kvs (.inr "looseness") = some (.int u.loose)
def RDictAt (H : Hp) (v : V) (u : Ru) : Prop := ∃ a kvs, v = .ref a ∧ H a = some (.dK kvs) ∧ RDict H kvs u
theorem RDictAt.mono {H H' : Hp} {v : V} {u : Ru} (e : Ex H H') (h : RDictAt H v u) : RDictAt H' v u := by
  obtain ⟨a, kvs, h1, h2, h3⟩ := h
  obtain ⟨wa, h4, h5⟩ := h3.wid
  exact ⟨a, kvs, h1, e _ _ h2, ⟨⟨wa, h4, e _ _ h5⟩, h3.tol, h3.line, h3.hyp, h3.unl, h3.dbl, h3.last, h3.room, h3.loose⟩⟩
section
variable {P : Program} {w : World} {K : PySem.W.Frag} {mg : Str → Option Value} {base : Heap} {cG cR cL aF cC Pt : Addr}
abbrev st_law_break_places : Stmt := top 83
def nm_law_break_places : List Str := ["_law_plain", "_law_rules", "_law_found", "_law_at", "_law_item"]
theorem sc_law_break_places : FnScope nm_law_break_places ["_law_plain", "_law_rules"] (defScope st_law_break_places) := ⟨rfl, rfl, rfl, by decide +kernel, rfl, by decide +kernel, by decide +kernel⟩
def sp_law_break_places : Sp := spR fun vs H R => ∃ x y r u, vs = [x, y] ∧ PlainAt H x r ∧ RDictAt H y u ∧ r.length ≤ 1000 ∧ ∀ v H2, (∃ l, v = .ref l ∧ H l = none ∧ H2 l = some (.lst (natsV (places r u.hyp)))) → R v H2
theorem places_take (r : Row) (hyp : Int) (i : Nat) : (List.range (i + 1)).filter (isPlace r hyp) = (List.range i).filter (isPlace r hyp) ++ (if isPlace r hyp i then [i] else []) := by
  rw [List.range_succ, List.filter_append, List.filter_cons, List.filter_nil]
theorem ok_law_break_places (T : Tx K mg cG cR cL aF) (D : DefAt K mg "_law_break_places" "_law_break_places" "_law_break_places" st_law_break_places) : Cal P w K mg base "_law_break_places" ["_law_plain", "_law_rules"] 1 sp_law_break_places := by
  refine cal_of D sc_law_break_places (fun _ _ _ _ _ _ us hl => match us, hl with | [_, _], _ => rfl) (fun vs H Q E h => ?_) (fun f cdv A outer s H vs Q E hr h => ?_)
  · obtain ⟨R, ⟨x, y, r, u, rfl, _⟩, _⟩ := h
    rfl
  · obtain ⟨R, ⟨x, y, r, u, rfl, ⟨a, ws, rfl, ha, hi⟩, ⟨b, kvs, rfl, hb, hd⟩, hlen, hR⟩, k⟩ := h
    refine ⟨_, (pss_cons (ps_set (i := 2) sc_law_break_places.nd rfl (Or.inl rfl) (pe_lst pa_nil))
      (pss_cons (ps_for PassesOwn.never rfl (pi_enum (by rfl) T.enumerate_ (pa_cons (pv 0) pa_nil)) (pg_tup rfl (pgs_cons (pg_name (i := 3) sc_law_break_places.nd rfl (Or.inl rfl)) (pgs_cons (pg_name (i := 4) sc_law_break_places.nd rfl (Or.inl rfl)) pgs_nil))) (pss_cons (ps_if (PW.pt (pw_and (pt_cmpR op_eq (pe_ix ix_tup (pv 4) pe_int (fun _ _ => rfl)) pe_str (nomark _)) (pw_and (pt_cmpR op_gt (pv 3) pe_int (nomark _)) (pw_and1 (pt_cmpR op_in_seq (pe_ix ix_tup (pe_ix ix_list (pv 0) (pe_op op_sub (pv 3) pe_int) (fun _ _ => rfl)) pe_int (fun _ _ => rfl)) (pe_tup (pa_cons pe_str (pa_cons pe_str pa_nil))) rfl))))) (pss_one (ps_expr (pe_bm PySem.F.plainAttrs_list PySem.F.slot_list_append PySem.F.type_list_append mt_append (pv 2) (pa_cons (pv 3) pa_nil)))) pss_nil)
      (pss_one (ps_if (PW.pt (pw_or (PW.pt (pw_and (pt_cmpR op_eq (pe_ix ix_tup (pv 4) pe_int (fun _ _ => rfl)) pe_str (nomark _)) (pw_and1 (pt_cmpR op_lt (pe_ix ix_tup (pv 4) pe_int (fun _ _ => rfl)) pe_int (nomark _))))) (pw_or1 (PW.pt (pw_and (pt_cmpR op_eq (pe_ix ix_tup (pv 4) pe_int (fun _ _ => rfl)) pe_str (nomark _)) (pw_and1 (pt_cmpR op_lt (pe_dget hr.u1 (pv 1) pe_str (fun _ _ => rfl)) pe_int (nomark _)))))))) (pss_one (ps_expr (pe_bm PySem.F.plainAttrs_list PySem.F.slot_list_append PySem.F.type_list_append mt_append (pv 2) (pa_cons (pv 3) pa_nil)))) pss_nil))))
      (pss_one (ps_ret (pv 2))))), ?_⟩
    have hl := paired_len hi
    refine q_asgL (el_lst ea_nil (by decide)) fun l H1 hl1 e1 h1 => ?_
    have plen : ∀ i, ((List.range i).filter (isPlace r u.hyp)).length ≤ i := fun i => by
      have := List.length_filter_le (isPlace r u.hyp) (List.range i)
      rwa [List.length_range] at this
    refine q_forE (ev_var rfl) (sq_of (e1 _ _ ha)) (fun i σ' H' => (∃ o1 o2, σ' = [some (.ref a), some (.ref b), some (.ref l), o1, o2]) ∧ Ex H H' ∧ H' l = some (.lst (natsV ((List.range i).filter (isPlace r u.hyp))))) (fun H2 e2 => ⟨⟨none, none, rfl⟩, e1.trans e2, e2 _ _ h1⟩) (fun i σ' H' _ p => sq_of (p.2.1 _ _ ha)) ?_ ?_
    · rintro i z σ' H' H2 hz ⟨⟨o1, o2, rfl⟩, eH, hlH⟩ e2
      have E2 := eH.trans e2
      have hlt : i < r.length := by
        have := (List.getElem?_eq_some_iff.mp hz).1
        omega
      obtain ⟨it, hit, hat⟩ := L2.paired_get hi hz
      have eit : at_ r i = it := by
        unfold at_
        rw [List.getD_eq_getElem?_getD, hit]
        rfl
      have hat := hat.mono gTup_mono E2
      obtain ⟨ia, xs, rfl, hia⟩ := hat.tag
      have hl2 := e2 _ _ hlH
      have la2 := E2 _ _ ha
      let b1 := it.isGlue && (decide (0 < i) && (at_ r (i - 1)).stays)
      let b2 := (it.isPen && decide (it.penV < 10000)) || (it.isPart && decide (u.hyp < 10000))
      have ep : isPlace r u.hyp i = (b1 || b2) ∧ (b1 && b2) = false := by
        have e0 : isPlace r u.hyp i = (match at_ r i with
          | .glue _ _ _ _ => decide (0 < i) && (at_ r (i - 1)).stays
          | .pen p => decide (p < 10000)
          | .part _ _ _ => decide (u.hyp < 10000)
          | .box _ => false) := rfl
        rw [e0, eit]
        show _ = ((it.isGlue && (decide (0 < i) && (at_ r (i - 1)).stays)) || ((it.isPen && decide (it.penV < 10000)) || (it.isPart && decide (u.hyp < 10000)))) ∧ ((it.isGlue && (decide (0 < i) && (at_ r (i - 1)).stays)) && ((it.isPen && decide (it.penV < 10000)) || (it.isPart && decide (u.hyp < 10000)))) = false
        cases it <;> simp [It.isGlue, It.isPen, It.isPart, It.penV] <;> rfl
      have pl := plen i
      -- the second if
      have second : ∀ (H3 : Hp), Ex H H3 → H3 l = some (.lst (natsV ((List.range i).filter (isPlace r u.hyp) ++ (if b1 = true then [i] else [])))) → ∀ (D : Ends), (∀ H4, Ex H H4 → H4 l = some (.lst (natsV ((List.range (i + 1)).filter (isPlace r u.hyp)))) → D.nx [some (.ref a), some (.ref b), some (.ref l), some (.int (i : Int)), some (.ref ia)] H4) →
          tIfS (tOr (tAnd (tTest (tOp rEq (tOp (rIxT K) (tVar 4) (tC (.int 0))) (tC (.str "penalty")))) (tTest (tOp (rI0 fun i j => .bl (decide (i < j))) (tOp (rIxT K) (tVar 4) (tC (.int 1))) (tC (.int 10000)))))
            (tAnd (tTest (tOp rEq (tOp (rIxT K) (tVar 4) (tC (.int 0))) (tC (.str "part")))) (tTest (tOp (rI0 fun i j => .bl (decide (i < j))) (tDGet (tVar 1) (tC (.str "hyphen"))) (tC (.int 10000))))))
            (tDrop (tBM K "list" rAppend (tVar 2) (tCons (tVar 3) tNil))) tNext D [some (.ref a), some (.ref b), some (.ref l), some (.int (i : Int)), some (.ref ia)] H3 := fun H3 e3 h3 D hD => by
        obtain ⟨it', hit', hat3⟩ := L2.paired_get hi hz
        rw [hit] at hit'
        cases hit'
        have hat3 := hat3.mono gTup_mono e3
        obtain ⟨ia', xs', eia, hia3⟩ := hat3.tag
        cases eia
        refine s_when (b := b2) (et_or (et_and (et_is (et_test (ev_op (ev_ixT (ev_var rfl) ev_c hia3 at0) ev_c (rv_eq rfl))) (tag_pen it)) fun hp => ?_) fun _ => et_and (et_is (et_test (ev_op (ev_ixT (ev_var rfl) ev_c hia3 at0) ev_c (rv_eq rfl))) (tag_part it)) fun _ => et_test (ev_op (ev_dget (k := .inr "hyphen") (ev_var rfl) ev_c (e3 _ _ hb) hd.hyp) ev_c rv_I0)) (fun hb2 H4 e4 => ?_) fun hb2 H4 e4 => ?_
        · cases hat3 with
          | pen h => exact et_test (ev_op (ev_ixT (ev_var rfl) ev_c h at1) ev_c rv_I0)
          | _ => cases hp
        · have hb1 : b1 = false := by
            have := ep.2
            rw [hb2, Bool.and_true] at this
            exact this
          rw [hb1, if_neg Bool.false_ne_true, List.append_nil] at h3
          refine s_app (e4 _ _ h3) (ev_var rfl) (ev_var rfl) ?_ fun H5 e5 => hD _ (Ex.mut ((e3.trans e4).trans e5) hl1) ?_
          · unfold natsV
            rw [List.length_map]
            omega
          · rw [upd_same, places_take, ep.1, hb1, hb2, Bool.false_or, if_pos rfl]
            unfold natsV
            rw [List.map_append]
            rfl
        · refine hD H4 (e3.trans e4) ?_
          rw [e4 _ _ h3, places_take, ep.1, hb2, Bool.or_false]
      refine q_when (b := b1) (et_and (et_is (et_test (ev_op (ev_ixT (ev_var rfl) ev_c hia at0) ev_c (rv_eq rfl))) (tag_glue it)) fun _ => et_and (et_is (et_test (ev_op (ev_var rfl) ev_c rv_I0)) (b := decide (0 < i)) (by rw [Bool.eq_iff_iff, decide_eq_true_iff, decide_eq_true_iff]; omega)) fun h0 => ?_) (fun hb1 H3 e3 => ?_) fun hb1 H3 e3 => ?_
      · have h0 := of_decide_eq_true h0
        obtain ⟨y, hy⟩ : ∃ y, ws[i - 1]? = some y := ⟨_, List.getElem?_eq_getElem (by omega)⟩
        obtain ⟨ip, hip, hap⟩ := L2.paired_get hi hy
        have eip : at_ r (i - 1) = ip := by
          unfold at_
          rw [List.getD_eq_getElem?_getD, hip]
          rfl
        obtain ⟨pa, xs2, rfl, hpa⟩ := (hap.mono gTup_mono E2).tag
        rw [eip]
        exact et_is (et_test (ev_inU (ev_ixT (ev_ixL (ev_var rfl) (ev_op (ev_var rfl) ev_c rv_I0) la2 (at_of (j := i - 1) (by omega) hy)) ev_c hpa at0) (eu_tup (ea_cons ev_c (ea_cons ev_c ea_nil)) (by decide)) rfl rfl)) (stays_tag ip)
      · refine s_app (e3 _ _ hl2) (ev_var rfl) (ev_var rfl) ?_ fun H4 e4 => second _ (Ex.mut ((E2.trans e3).trans e4) hl1) ?_ _ fun H5 e5 h5 => ⟨⟨_, _, rfl⟩, e5, h5⟩
        · unfold natsV
          rw [List.length_map]
          omega
        · rw [upd_same, hb1, if_pos rfl]
          unfold natsV
          rw [List.map_append]
          rfl
      · refine second _ (E2.trans e3) ?_ _ fun H5 e5 h5 => ⟨⟨_, _, rfl⟩, e5, h5⟩
        rw [e3 _ _ hl2, hb1, if_neg Bool.false_ne_true, List.append_nil]
    · rintro σ' H' ⟨⟨o1, o2, rfl⟩, eH, hlH⟩
      refine s_ret (ev_var rfl) fun H2 e2 => k _ H2 (eH.trans e2) (hR _ _ ⟨l, rfl, hl1, ?_⟩)
      rw [hl] at hlH
      exact e2 _ _ hlH
end
end K51
set_option Elab.async false
set_option linter.all false
set_option maxRecDepth 100000
set_option maxHeartbeats 4000000
namespace K51
open PySem PySem.Spec PyProof.Rows L2 Evl LamX
/-! ### items as data -/
def It.D : It → PyData
  | .box w => .tuple [.str "box", .int w]
  | .glue n s o k => .tuple [.str "glue", .tuple [.int n, .int s, .int o, .int k]]
  | .part a b c => .tuple [.str "part", .int a, .int b, .int c]
  | .pen p => .tuple [.str "penalty", .int p]
theorem It.dp {K : PySem.W.Frag} {H : Hp} {v : V} {it : It} (h : ItAt GTup H v it) : Dp K H v it.D := by
  cases h with
  | box h => exact .tup (st_of h) (.cons (.str _) (.cons (.int _) .nil))
  | glue h g =>
    obtain ⟨b, rfl, hb⟩ := g
    exact .tup (st_of h) (.cons (.str _) (.cons (.tup (st_of hb) (.cons (.int _) (.cons (.int _) (.cons (.int _) (.cons (.int _) .nil))))) .nil))
  | part h => exact .tup (st_of h) (.cons (.str _) (.cons (.int _) (.cons (.int _) (.cons (.int _) .nil))))
  | pen h => exact .tup (st_of h) (.cons (.str _) (.cons (.int _) .nil))
theorem lay_box : PyData.canLay0 (.str "box") = true := by decide +kernel
theorem lay_glue : PyData.canLay0 (.str "glue") = true := by decide +kernel
theorem lay_part : PyData.canLay0 (.str "part") = true := by decide +kernel
theorem lay_pen : PyData.canLay0 (.str "penalty") = true := by decide +kernel
theorem sh_pen (p : Int) : SeqAt.shaped (.tuple [.str "penalty", .int p]) = true := by
  have h := lay_pen
  simp only [SeqAt.shaped, PyData.canLay0, PyData.canLayAll0, PyData.depth, PyData.depthAll, Bool.and_eq_true, decide_eq_true_eq] at h ⊢
  refine ⟨⟨h, ?_⟩, ?_⟩ <;> simp
theorem It.sh (it : It) : SeqAt.shaped it.D = true := by
  have h1 := lay_box
  have h2 := lay_glue
  have h3 := lay_part
  cases it with
  | pen p => exact sh_pen p
  | box w =>
    simp only [It.D, SeqAt.shaped, PyData.canLay0, PyData.canLayAll0, PyData.depth, PyData.depthAll, Bool.and_eq_true, decide_eq_true_eq] at h1 ⊢
    refine ⟨⟨h1, ?_⟩, ?_⟩ <;> simp
  | part a b c =>
    simp only [It.D, SeqAt.shaped, PyData.canLay0, PyData.canLayAll0, PyData.depth, PyData.depthAll, Bool.and_eq_true, decide_eq_true_eq] at h3 ⊢
    refine ⟨⟨h3, ?_⟩, ?_⟩ <;> simp
  | glue n s o k =>
    simp only [It.D, SeqAt.shaped, PyData.canLay0, PyData.canLayAll0, PyData.depth, PyData.depthAll, Bool.and_eq_true, decide_eq_true_eq] at h2 ⊢
    refine ⟨⟨h2, ?_⟩, ?_⟩ <;> simp
theorem It.eqv (it : It) : PyData.eqv it.D (.tuple [.str "penalty", .int (-10000)]) = it.forced := by
  have b1 : (("box" : Str) == ("penalty" : Str)) = false := by decide +kernel
  have b2 : (("glue" : Str) == ("penalty" : Str)) = false := by decide +kernel
  have b3 : (("part" : Str) == ("penalty" : Str)) = false := by decide +kernel
  cases it with
  | box w =>
    simp only [It.D, PyData.eqv, PyData.eqvAll, b1, Bool.false_and]
    rfl
  | glue n s o k =>
    simp only [It.D, PyData.eqv, PyData.eqvAll, b2, Bool.false_and]
    rfl
  | part a b c =>
    simp only [It.D, PyData.eqv, PyData.eqvAll, b3, Bool.false_and]
    rfl
  | pen p =>
    show ((("penalty" : Str) == ("penalty" : Str)) && ((p == -10000) && true)) = decide (p = -10000)
    rw [(by decide +kernel : (("penalty" : Str) == ("penalty" : Str)) = true), Bool.true_and, Bool.and_true]
    exact Bool.beq_eq_decide_eq ..
/-- item == ('penalty', -10000) -/
theorem et_pen {K : PySem.W.Frag} {σ : L2.St} {H : Hp} {te : TE} {v : V} {it : It} (h : Ev te σ H v) (hi : ItAt GTup H v it) : EvT (tTest (tOp (rEqD K) te (tTup (tCons (tC (.str "penalty")) (tCons (tUn (rU fun i => .int (-i)) (tC (.int 10000))) tNil))))) σ H it.forced :=
  et_test (ev_opU h (eu_tup (vs := [.str "penalty", .int (-10000)]) (ea_cons ev_c (ea_cons (ev_un ev_c ru_neg) ea_nil)) (by show 2 ≤ 100000; decide)) fun p H1 hp e1 => rv_val fun H2 e2 Q q => ⟨it.D, .tuple [.str "penalty", .int (-10000)], It.dp (hi.mono gTup_mono (e1.trans e2)), .tup (st_of (e2 _ _ hp)) (.cons (.str _) (.cons (.int _) .nil)), It.sh it, sh_pen _, by rw [It.eqv]; exact q⟩)
theorem plain_at {H : Hp} {ws : List V} {r : Row} {i : Nat} (hi : ItsAt GTup H ws r) (h : i < r.length) : ∃ x, ws[i]? = some x ∧ ItAt GTup H x (at_ r i) := paired_get hi (at_some h)
section
variable {P : Program} {w : World} {K : PySem.W.Frag} {mg : Str → Option Value} {base : Heap} {cG cR cL aF cC Pt : Addr}
abbrev st_law_line_start : Stmt := top 84
def nm_law_line_start : List Str := ["_law_plain", "_law_place", "_law_at"]
theorem sc_law_line_start : FnScope nm_law_line_start ["_law_plain", "_law_place"] (defScope st_law_line_start) := ⟨rfl, rfl, rfl, by decide +kernel, rfl, by decide +kernel, by decide +kernel⟩
def sp_law_line_start : Sp := spV fun vs H v => ∃ x r, ∃ p : Int, vs = [x, .int p] ∧ PlainAt H x r ∧ RowOk r ∧ Pl r p ∧ r.length ≤ 1000 ∧ v = .int (startOf r p : Int)
theorem ok_law_line_start (T : Tx K mg cG cR cL aF) (D : DefAt K mg "_law_line_start" "_law_line_start" "_law_line_start" st_law_line_start) : Cal P w K mg base "_law_line_start" ["_law_plain", "_law_place"] 1 sp_law_line_start := by
  refine cal_of D sc_law_line_start (fun _ _ _ _ _ _ us hl => match us, hl with | [_, _], _ => rfl) (fun vs H Q E h => ?_) (fun f cdv A outer s H vs Q E hr h => ?_)
  · obtain ⟨v, ⟨x, r, p, rfl, _⟩, _⟩ := h
    rfl
  · obtain ⟨v, ⟨x, r, p, rfl, ⟨a, ws, rfl, ha, hi⟩, ⟨hr0, hrf⟩, hp, hlen, rfl⟩, k⟩ := h
    refine ⟨_, (pss_cons (ps_if (PW.pt (pw_or (pt_cmpR op_eq (pv 1) (pe_un un_neg pe_int) (nomark _)) (pw_or1 (pt_cmpR op_eq (pe_ix ix_tup (pe_ix ix_list (pv 0) (pv 1) (fun _ _ => rfl)) pe_int (fun _ _ => rfl)) pe_str (nomark _))))) (pss_one (ps_ret (pe_op op_add (pv 1) pe_int))) pss_nil)
      (pss_cons (ps_for PassesOwn.never rfl (pi_range2 rfl T.range_ (pa_cons (pe_op op_add (pv 1) pe_int) (pa_cons (pe_callB call_len_seq (by rfl) T.len_ (by decide +kernel) (pa_cons (pv 0) pa_nil)) pa_nil))) (pg_name (i := 2) sc_law_line_start.nd rfl (Or.inl rfl)) (pss_one (ps_if (PW.pt (pw_or (pt_cmpR op_in_seq (pe_ix ix_tup (pe_ix ix_list (pv 0) (pv 2) (fun _ _ => rfl)) pe_int (fun _ _ => rfl)) (pe_tup (pa_cons pe_str (pa_cons pe_str pa_nil))) rfl) (pw_or1 (pt_cmpR (op_eqD hr.units) (pe_ix ix_list (pv 0) (pv 2) (fun _ _ => rfl)) (pe_tup (pa_cons pe_str (pa_cons (pe_un un_neg pe_int) pa_nil))) (nomark _))))) (pss_one (ps_ret (pv 2))) pss_nil)))
      (pss_one (ps_ret (pe_op op_sub (pe_callB call_len_seq (by rfl) T.len_ (by decide +kernel) (pa_cons (pv 0) pa_nil)) pe_int))))), ?_⟩
    have hl := paired_len hi
    by_cases h0 : p = -1
    · refine q_when (b := true) (et_is (et_or (a := true) (b := true) (et_is (et_test (ev_op (ev_var rfl) (ev_un ev_c ru_neg) (rv_eq rfl))) (by rw [int_dec]; exact decide_eq_true h0)) fun h => nomatch h) rfl) (fun _ H2 e2 => s_ret (ev_op (ev_var rfl) ev_c rv_I0) fun H3 e3 => kz k ?_ (e2.trans e3)) fun h => nomatch h
      unfold startOf
      rw [if_pos h0, h0]
      rfl
    · have hp2 : 0 ≤ p ∧ p < (r.length : Int) - 1 := by
        rcases hp with h | h
        · exact absurd h h0
        · exact h
      obtain ⟨y, hy, hiy⟩ := plain_at hi (i := p.toNat) (by omega)
      have hya : atI ws p = some y := at_of (j := p.toNat) (by omega) hy
      obtain ⟨t, xs, rfl, ht⟩ := hiy.tag
      refine q_when (b := (at_ r p.toNat).isPart) (et_is (et_or (a := false) (et_is (et_test (ev_op (ev_var rfl) (ev_un ev_c ru_neg) (rv_eq rfl))) (by rw [int_dec]; exact decide_eq_false h0)) fun _ => et_is (et_test (ev_op (ev_ixT (ev_ixL (ev_var rfl) (ev_var rfl) ha hya) ev_c ht at0) ev_c (rv_eq rfl))) (tag_part _)) (Bool.false_or _))
        (fun hpt H2 e2 => s_ret (ev_op (ev_var rfl) ev_c rv_I0) fun H3 e3 => kz k ?_ (e2.trans e3)) fun hpt H2 e2 => ?_
      · unfold startOf
        rw [if_neg h0, hpt, if_pos rfl]
        congr 1
        omega
      · have es : startOf r p = firstStay r (p.toNat + 1) := by
          unfold startOf
          rw [if_neg h0, hpt, if_neg Bool.false_ne_true]
        have ha2 := e2 _ _ ha
        refine q_forR2 (lo := p + 1) (n := (r.length : Int)) (ea_cons (ev_op (ev_var rfl) ev_c rv_I0) (ea_cons (ev_is (ev_lenS (ev_var rfl) (.inl (sq_of ha2))) (by rw [hl])) ea_nil)) ⟨by omega, by omega, by omega, by omega⟩
          (fun i σ' H' => (∃ o, σ' = [some (.ref a), some (.int p), o]) ∧ Ex H H' ∧ firstStay r (p.toNat + 1 + i) = startOf r p) (fun H3 e3 => ⟨⟨none, rfl⟩, e2.trans e3, es.symm⟩) ?_ ?_
        · rintro i σ' H' hi2 ⟨⟨o, rfl⟩, eH, hfs⟩
          have hj : p.toNat + 1 + i < r.length := by omega
          have ei : p + 1 + (i : Int) = ((p.toNat + 1 + i : Nat) : Int) := by omega
          rw [ei]
          obtain ⟨z, hz, hit⟩ := plain_at hi hj
          have hit := hit.mono gTup_mono eH
          obtain ⟨za, zs, rfl, hza⟩ := hit.tag
          have haz := eH _ _ ha
          refine s_when (b := (at_ r (p.toNat + 1 + i)).stays || (at_ r (p.toNat + 1 + i)).forced) (et_or (et_is (et_test (ev_inU (ev_ixT (ev_ixL (ev_var rfl) (ev_var rfl) haz (atI_nat hz)) ev_c hza at0) (eu_tup (ea_cons ev_c (ea_cons ev_c ea_nil)) (by decide)) rfl rfl)) (stays_tag _)) fun _ => et_pen (ev_ixL (ev_var rfl) (ev_var rfl) haz (atI_nat hz)) hit) (fun hb H3 e3 => s_ret (ev_var rfl) fun H4 e4 => kz k ?_ ((eH.trans e3).trans e4)) fun hb H3 e3 => ⟨⟨_, rfl⟩, eH.trans e3, ?_⟩
          · rw [← hfs, firstStay_here hj hb]
          · rw [Bool.or_eq_false_iff] at hb
            rw [← hfs, firstStay_next hj hb.1 hb.2]
            rfl
        · rintro σ' H' ⟨⟨o, rfl⟩, eH, hfs⟩
          refine s_ret (ev_op (ev_lenS (ev_var rfl) (.inl (sq_of (eH _ _ ha)))) ev_c rv_I0) fun H3 e3 => kz k ?_ (eH.trans e3)
          have e1 : p.toNat + 1 + ((r.length : Int) - (p + 1)).toNat = r.length := by omega
          rw [e1] at hfs
          unfold firstStay at hfs
          rw [if_neg (Nat.lt_irrefl _)] at hfs
          rw [hl, ← hfs]
          congr 1
          omega
end
end K51
set_option Elab.async false
set_option linter.all false
set_option maxRecDepth 100000
set_option maxHeartbeats 4000000
namespace K51
open PySem PySem.Spec PyProof.Rows L2 Evl LamX
theorem cutAt_app {α : Type} (f : α → Bool) : ∀ (l m : List α), (∀ x ∈ l, f x = false) → cutAt f (l ++ m) = l ++ cutAt f m
  | [], m, _ => rfl
  | x :: l, m, h => by
    show (x :: (if f x then [] else cutAt f (l ++ m))) = x :: (l ++ cutAt f m)
    rw [h x List.mem_cons_self, if_neg Bool.false_ne_true, cutAt_app f l m fun y hy => h y (List.mem_cons_of_mem _ hy)]
theorem cutAt_one {α : Type} (f : α → Bool) (x : α) (m : List α) (h : f x = true) : cutAt f (x :: m) = [x] := by
  show (x :: (if f x then [] else cutAt f m)) = _
  rw [h, if_pos rfl]
section
variable {P : Program} {w : World} {K : PySem.W.Frag} {mg : Str → Option Value} {base : Heap} {cG cR cL aF cC Pt : Addr}
abbrev st_law_places_behind : Stmt := top 85
def nm_law_places_behind : List Str := ["_law_plain", "_law_rules", "_law_place", "_law_start", "_law_found", "_law_at"]
theorem sc_law_places_behind : FnScope nm_law_places_behind ["_law_plain", "_law_rules", "_law_place"] (defScope st_law_places_behind) := ⟨rfl, rfl, rfl, by decide +kernel, rfl, by decide +kernel, by decide +kernel⟩
def sp_law_places_behind : Sp := spR fun vs H R => ∃ x y r u, ∃ p : Int, vs = [x, y, .int p] ∧ PlainAt H x r ∧ RDictAt H y u ∧ RowOk r ∧ Pl r p ∧ r.length ≤ 1000 ∧ ∀ v H2, (∃ l, v = .ref l ∧ H l = none ∧ H2 l = some (.lst (natsV (nexts r u.hyp p)))) → R v H2
theorem ok_law_places_behind (T : Tx K mg cG cR cL aF) (D : DefAt K mg "_law_places_behind" "_law_places_behind" "_law_places_behind" st_law_places_behind) (c_law_line_start : Cal P w K mg base "_law_line_start" ["_law_plain", "_law_place"] 1 sp_law_line_start)
    (c_law_break_places : Cal P w K mg base "_law_break_places" ["_law_plain", "_law_rules"] 1 sp_law_break_places) : Cal P w K mg base "_law_places_behind" ["_law_plain", "_law_rules", "_law_place"] 2 sp_law_places_behind := by
  refine cal_of D sc_law_places_behind (fun _ _ _ _ _ _ us hl => match us, hl with | [_, _, _], _ => rfl) (fun vs H Q E h => ?_) (fun f cdv A outer s H vs Q E hr h => ?_)
  · obtain ⟨R, ⟨x, y, r, u, p, rfl, _⟩, _⟩ := h
    rfl
  · obtain ⟨R, ⟨x, y, r, u, p, rfl, hx, hy, hro, hp, hlen, hR⟩, k⟩ := h
    refine ⟨_, (pss_cons (ps_par (i := 3) (j := 4) (by rfl) sc_law_places_behind.nd rfl rfl (by decide) rfl rfl (pa_cons (pe_cal c_law_line_start (hr.mono (by decide)) (pa_cons (pv 0) (pa_cons (pv 2) pa_nil))) (pa_cons (pe_lst pa_nil) pa_nil)) (by rfl))
      (pss_cons (ps_for PassesOwn.never rfl (pi_list (pe_cal c_law_break_places (hr.mono (by decide)) (pa_cons (pv 0) (pa_cons (pv 1) pa_nil)))) (pg_name (i := 5) sc_law_places_behind.nd rfl (Or.inl rfl)) (pss_one (ps_if (pt_cmpR op_ge (pv 5) (pv 3) (nomark _)) (pss_cons (ps_expr (pe_bm PySem.F.plainAttrs_list PySem.F.slot_list_append PySem.F.type_list_append mt_append (pv 4) (pa_cons (pv 5) pa_nil)))
      (pss_one (ps_if (pt_cmpR (op_eqD hr.units) (pe_ix ix_list (pv 0) (pv 5) (fun _ _ => rfl)) (pe_tup (pa_cons pe_str (pa_cons (pe_un un_neg pe_int) pa_nil))) (nomark _)) (pss_one (ps_ret (pv 4))) pss_nil))) pss_nil)))
      (pss_one (ps_ret (pv 4))))), ?_⟩
    obtain ⟨a, ws, rfl, ha, hi⟩ := id hx
    have hl := paired_len hi
    refine ev_calV (σ := [some (.ref a), some y, some (.int p), none, none, none]) (v := .int (startOf r p : Int)) (ea_cons (ev_var (i := 0) rfl) (ea_cons (ev_var (i := 2) rfl) ea_nil)) (fun H1 e1 => ⟨_, r, p, rfl, hx.mono e1, hro, hp, hlen, rfl⟩) H (Ex.refl H) _ fun H1 e1 => ⟨by show 0 ≤ sizeLine; decide, fun l hl1 => ⟨_, _, rfl, ?_⟩⟩
    have hl0 : H l = none := fresh_back e1 hl1
    have e2 : Ex H (upd H1 l (.lst [])) := e1.trans (Ex.new hl1)
    have h2 : upd H1 l (.lst []) l = some (.lst []) := upd_same
    generalize upd H1 l (.lst []) = H2 at e2 h2
    let pl := places r u.hyp
    let F := fun i : Nat => (pl.take i).filter fun j => decide (startOf r p ≤ j)
    have plen : pl.length ≤ r.length := by
      show (places r u.hyp).length ≤ _
      unfold places
      have := List.length_filter_le (isPlace r u.hyp) (List.range r.length)
      rwa [List.length_range] at this
    have flen : ∀ i, (F i).length ≤ 1000 := fun i => Nat.le_trans (List.length_filter_le _ _) (by rw [List.length_take]; omega)
    have nx : nexts r u.hyp p = cutAt (fun i => (at_ r i).forced) (pl.filter fun i => decide (startOf r p ≤ i)) := rfl
    refine q_forRL (R := fun v H' => ∃ l', v = .ref l' ∧ H2 l' = none ∧ H' l' = some (.lst (natsV pl))) (ev_calR (ea_cons (ev_var rfl) (ea_cons (ev_var rfl) ea_nil)) fun H3 e3 => ⟨_, _, r, u, rfl, hx.mono (e2.trans e3), hy.mono (e2.trans e3), hlen, fun v H4 ⟨l', h1, h2, h3⟩ => ⟨l', h1, fresh_back e3 h2, h3⟩⟩) fun bv H3 e3 hbv => ?_
    obtain ⟨b, rfl, hb0, hb3⟩ := hbv
    have bl : b ≠ l := fun e => by
      rw [e, h2] at hb0
      cases hb0
    refine ⟨b, natsV pl, rfl, hb3, fun i σ' H' => (∃ o, σ' = [some (.ref a), some y, some (.int p), some (.int (startOf r p : Int)), some (.ref l), o]) ∧ Ex H H' ∧ H' l = some (.lst (natsV (F i))) ∧ H' b = some (.lst (natsV pl)) ∧ ∀ j ∈ F i, (at_ r j).forced = false, ⟨⟨_, rfl⟩, e2.trans e3, e3 _ _ h2, hb3, fun j hj => absurd hj List.not_mem_nil⟩, fun i σ' H' _ h => h.2.2.2.1, ?_, ?_⟩
    · rintro i z σ' H' hz ⟨⟨o, rfl⟩, eH, hlH, hbH, hnf⟩
      obtain ⟨e, he, rfl⟩ := natsV_get hz
      have Fs : F (i + 1) = F i ++ (if startOf r p ≤ e then [e] else []) := by
        show (pl.take (i + 1)).filter _ = (pl.take i).filter _ ++ _
        rw [List.take_succ, he, List.filter_append]
        congr 1
        show List.filter _ [e] = _
        rw [List.filter_cons, List.filter_nil]
        by_cases h : startOf r p ≤ e
        · rw [if_pos h, if_pos (decide_eq_true h)]
        · rw [if_neg h, if_neg (by rw [decide_eq_false h]; exact Bool.false_ne_true)]
      have hel : e < r.length := by
        have := List.mem_of_getElem? he
        unfold pl places at this
        rw [List.mem_filter, List.mem_range] at this
        exact this.1
      refine s_when (b := decide (startOf r p ≤ e)) (et_is (et_test (ev_op (ev_var rfl) (ev_var rfl) rv_I0)) (by rw [Bool.eq_iff_iff, decide_eq_true_iff, decide_eq_true_iff]; omega)) (fun hb H4 e4 => ?_) fun hb H4 e4 => ?_
      · have hb := of_decide_eq_true hb
        have fl := flen i
        refine q_app (e4 _ _ hlH) (ev_var rfl) (ev_var rfl) (by unfold natsV; rw [List.length_map]; omega) fun H5 e5 => ?_
        have e6 : Ex H (upd H5 l (.lst (natsV (F i) ++ [.int (e : Int)]))) := Ex.mut ((eH.trans e4).trans e5) hl0
        have h6 : upd H5 l (.lst (natsV (F i) ++ [.int (e : Int)])) l = some (.lst (natsV (F (i + 1)))) := by
          rw [upd_same, Fs, if_pos hb]
          unfold natsV
          rw [List.map_append]
          rfl
        have h7 : upd H5 l (.lst (natsV (F i) ++ [.int (e : Int)])) b = some (.lst (natsV pl)) := by
          rw [upd_ne bl]
          exact e5 _ _ (e4 _ _ hbH)
        generalize upd H5 l (.lst (natsV (F i) ++ [.int (e : Int)])) = H6 at e6 h6 h7
        obtain ⟨z, hz, hit⟩ := plain_at hi hel
        refine s_when (b := (at_ r e).forced) (et_pen (ev_ixL (ev_var rfl) (ev_var rfl) (e6 _ _ ha) (atI_nat hz)) (hit.mono gTup_mono e6)) (fun hf H7 e7 => s_ret (ev_var rfl) fun H8 e8 => k _ H8 ((e6.trans e7).trans e8) (hR _ _ ⟨l, rfl, hl0, ?_⟩)) fun hf H7 e7 => ⟨⟨_, rfl⟩, e6.trans e7, e7 _ _ h6, e7 _ _ h7, fun j hj => ?_⟩
        · have hsplit : pl.filter (fun i => decide (startOf r p ≤ i)) = F i ++ (e :: (pl.drop (i + 1)).filter fun i => decide (startOf r p ≤ i)) := by
            conv => lhs; rw [← List.take_append_drop (i + 1) pl]
            rw [List.filter_append]
            have : (pl.take (i + 1)).filter (fun i => decide (startOf r p ≤ i)) = F i ++ [e] := by
              have := Fs
              rw [if_pos hb] at this
              exact this
            rw [this, List.append_assoc]
            rfl
          rw [nx, hsplit, cutAt_app _ _ _ hnf, cutAt_one (fun i => (at_ r i).forced) e _ hf, e8 _ _ (e7 _ _ h6), Fs, if_pos hb]
        · rw [Fs, if_pos hb] at hj
          rcases List.mem_append.mp hj with hj | hj
          · exact hnf j hj
          · rw [List.mem_singleton.mp hj]
            exact hf
      · have hb := of_decide_eq_false hb
        have Fe : F (i + 1) = F i := by rw [Fs, if_neg hb, List.append_nil]
        exact ⟨⟨_, rfl⟩, eH.trans e4, by rw [Fe]; exact e4 _ _ hlH, e4 _ _ hbH, fun j hj => hnf j (by rw [← Fe]; exact hj)⟩
    · rintro σ' H' ⟨⟨o, rfl⟩, eH, hlH, hbH, hnf⟩
      have hn : (natsV pl).length = pl.length := List.length_map ..
      have Fa : F (natsV pl).length = pl.filter fun i => decide (startOf r p ≤ i) := by
        show (pl.take _).filter _ = _
        rw [hn, List.take_length]
      rw [Fa] at hlH hnf
      refine s_ret (ev_var rfl) fun H2 e2 => k _ H2 (eH.trans e2) (hR _ _ ⟨l, rfl, hl0, ?_⟩)
      have := cutAt_app (fun i => (at_ r i).forced) (pl.filter fun i => decide (startOf r p ≤ i)) [] hnf
      rw [List.append_nil] at this
      rw [e2 _ _ hlH, nx, this]
      show _ = some (HO.lst (natsV (_ ++ [])))
      rw [List.append_nil]
abbrev st_law_line_badness : Stmt := top 86
def nm_law_line_badness : List Str := ["_law_wanted", "_law_room"]
theorem sc_law_line_badness : FnScope nm_law_line_badness ["_law_wanted", "_law_room"] (defScope st_law_line_badness) := ⟨rfl, rfl, rfl, by decide +kernel, rfl, by decide +kernel, by decide +kernel⟩
theorem ok_law_line_badness (T : Tx K mg cG cR cL aF) (D : DefAt K mg "_law_line_badness" "_law_line_badness" "_law_line_badness" st_law_line_badness) : Cal P w K mg base "_law_line_badness" ["_law_wanted", "_law_room"] 1 sp_badness_by := by
  refine cal_of D sc_law_line_badness (fun _ _ _ _ _ _ us hl => match us, hl with | [_, _], _ => rfl) (fun vs H Q E h => ?_) (fun f cdv A outer s H vs Q E hr h => ?_)
  · obtain ⟨v, ⟨b, r, rfl, _⟩, _⟩ := h
    rfl
  · obtain ⟨v, ⟨b, r, rfl, hb0, hb1, hr0, hr1, rfl⟩, k⟩ := h
    refine ⟨_, (pss_cons (ps_if (pt_cmpR op_eq (pv 0) pe_int (nomark _)) (pss_one (ps_ret pe_int)) pss_nil)
      (pss_one (ps_ret (pe_ifExp (pt_cmpR op_eq (pv 1) pe_int (nomark _)) pe_int (pe_callB (call_min2 rfl) (by rfl) T.min_ (by decide +kernel) (pa_cons pe_int (pa_cons (pe_op op_fdivN (pe_op op_mul pe_int (pe_op op_pow (pv 0) pe_int)) (pe_op op_pow (pv 1) pe_int)) pa_nil))))))), ?_⟩
    refine q_when (et_test (ev_op (ev_var rfl) ev_c (rv_eq rfl))) (fun h1 H1 e1 => ?_) (fun h1 H1 e1 => ?_)
    · rw [int_dec] at h1
      have h1 := of_decide_eq_true h1
      refine s_ret ev_c fun H2 e2 => kz k ?_ (e1.trans e2)
      unfold badBy
      rw [if_pos h1]
    · rw [int_dec] at h1
      have h1 := of_decide_eq_false h1
      refine s_ret (v := .int (badBy b r)) (ev_if (et_test (ev_op (ev_var rfl) ev_c (rv_eq rfl))) (fun h2 => ?_) (fun h2 => ?_)) fun H2 e2 => kz k rfl (e1.trans e2)
      · rw [int_dec] at h2
        have h2 := of_decide_eq_true h2
        refine ev_is ev_c ?_
        unfold badBy
        rw [if_neg h1, if_pos h2]
      · rw [int_dec] at h2
        have h2 := of_decide_eq_false h2
        obtain ⟨c1, c2⟩ := cube_pos hr0 h2 hr1
        refine ev_is (ev_min2 ev_c (ev_op (ev_op ev_c (ev_op (ev_var rfl) ev_c (rv_I ⟨by decide, by decide, by omega⟩)) (rv_I (Or.inl ⟨by decide, by decide⟩))) (ev_op (ev_var rfl) ev_c (rv_I ⟨by decide, by decide, by omega⟩)) (rv_I ⟨?_, ?_⟩))) ?_
        · show r ^ 3 ≠ 0
          omega
        · show (r ^ 3).natAbs < 1073741824
          omega
        · unfold badBy
          rw [if_neg h1, if_neg h2]
          show V.int (if (100 * b ^ 3).fdiv (r ^ 3) < 10000 then (100 * b ^ 3).fdiv (r ^ 3) else 10000) = V.int (min 10000 ((100 * b ^ 3) / r ^ 3))
          rw [Int.fdiv_eq_ediv_of_nonneg _ (by omega)]
          congr 1
          rw [Int.min_def]
          split <;> split <;> omega
abbrev st_law_sum_of : Stmt := top 90
def nm_law_sum_of : List Str := ["_law_one", "_law_other"]
theorem sc_law_sum_of : FnScope nm_law_sum_of ["_law_one", "_law_other"] (defScope st_law_sum_of) := ⟨rfl, rfl, rfl, by decide +kernel, rfl, by decide +kernel, by decide +kernel⟩
theorem ok_law_sum_of (T : Tx K mg cG cR cL aF) (D : DefAt K mg "_law_sum_of" "_law_sum_of" "_law_sum_of" st_law_sum_of) : Cal P w K mg base "_law_sum_of" ["_law_one", "_law_other"] 1 sp_added_cost := by
  refine cal_of D sc_law_sum_of (fun _ _ _ _ _ _ us hl => match us, hl with | [_, _], _ => rfl) (fun vs H Q E h => ?_) (fun f cdv A outer s H vs Q E hr h => ?_)
  · obtain ⟨v, ⟨x, y, c, d, rfl, _⟩, _⟩ := h
    rfl
  · obtain ⟨R, ⟨x, y, c, d, rfl, ⟨a, rfl, ha⟩, ⟨b, rfl, hb⟩, rfl⟩, k⟩ := h
    refine ⟨_, (pss_one (ps_ret (pe_tup (pa_cons (pe_op op_add (pe_ix ix_tup (pv 0) pe_int (fun _ _ => rfl)) (pe_ix ix_tup (pv 1) pe_int (fun _ _ => rfl))) (pa_cons (pe_op op_add (pe_ix ix_tup (pv 0) pe_int (fun _ _ => rfl)) (pe_ix ix_tup (pv 1) pe_int (fun _ _ => rfl))) (pa_cons (pe_op op_add (pe_ix ix_tup (pv 0) pe_int (fun _ _ => rfl)) (pe_ix ix_tup (pv 1) pe_int (fun _ _ => rfl))) pa_nil)))))), ?_⟩
    exact s_retU (eu_tup (ea_cons (ev_op (ev_ixT (ev_var rfl) ev_c ha at0) (ev_ixT (ev_var rfl) ev_c hb at0) rv_I0) (ea_cons (ev_op (ev_ixT (ev_var rfl) ev_c ha at1) (ev_ixT (ev_var rfl) ev_c hb at1) rv_I0)
      (ea_cons (ev_op (ev_ixT (ev_var rfl) ev_c ha at2) (ev_ixT (ev_var rfl) ev_c hb at2) rv_I0) ea_nil))) (by show 3 ≤ 100000; decide)) fun p H1 _ e h => k _ H1 e ⟨p, rfl, h⟩
end
end K51
set_option Elab.async false
set_option linter.all false
set_option maxRecDepth 100000
set_option maxHeartbeats 4000000
namespace K51
open PySem PySem.Spec PyProof.Rows L2 Evl LamX
/-! ### d.update(e), displays of dicts -/
def rUpd : V → List V → Hp → VK → Prop := fun x xs H Q => ∃ (d o : Addr) (kvs more : List (Key × V)), x = .ref d ∧ xs = [.ref o] ∧ d ≠ o ∧ H d = some (.dK kvs) ∧ H o = some (.dK more) ∧ kvs.length + more.length ≤ 100000 ∧ Q .non (upd H d (.dK (mergeK kvs more)))
theorem mt_update {X : Cx} : MtR X "dict.update" rUpd := by
  intro pins s σ H x xs v us Q I rx rxs h
  obtain ⟨d, o, kvs, more, rfl, rfl, hdo, hd, ho, hl, q⟩ := h
  cases rx
  cases rxs with
  | cons r1 rt =>
    cases rt
    cases r1
    obtain ⟨z, hds, vs, rel, dd⟩ := dk_of I.hok hd
    obtain ⟨z2, hos, ms, rel2, dd2⟩ := dk_of I.hok ho
    have l1 := rel.length
    have l2 := rel2.length
    have hz : (mergeK kvs more).length ≤ sizeLine := by
      have h1 := length_mergeK more kvs
      rw [sizeLine_eq]; omega
    refine call_meetsIn PySem.F.slot_dict_update dd.typeIs PySem.F.entry_dict_update (PySem.F.args_dict_update_2 _ _) (meets_dict_update (mixKind X.prog X.w) d o hdo hos) ⟨vs, ms, dd, dd2, by rw [← l1, ← l2, sizeLine_eq]; omega, fun h' dd' _ hs => ⟨.non, _, ?_, rfl, q⟩⟩
    have he : ∃ q, h'.get? d = some q := let ⟨q, _, _, hq, _⟩ := dd'; ⟨q, hq⟩
    exact d_write (t' := s.toks) I (by rw [hd]; exact True.intro) hs he (dk_new hz hds (rel2.merge rel) dd')
theorem sum_succ (f : It → Int) {l : List It} {i : Nat} {y : It} (h : l[i]? = some y) : ((l.take (i + 1)).map f).sum = ((l.take i).map f).sum + f y := by
  rw [List.take_succ, h, List.map_append, List.sum_append]
  show _ + (f y + 0) = _
  omega
def nS (f : It → Int) (l : List It) (i : Nat) : Int := ((l.take i).map f).sum
theorem nS_succ (f : It → Int) {l : List It} {i : Nat} {y : It} (h : l[i]? = some y) : nS f l (i + 1) = nS f l i + f y := sum_succ f h
theorem nS_same (f : It → Int) {l : List It} {i : Nat} {y : It} (h : l[i]? = some y) (hf : f y = 0) : nS f l (i + 1) = nS f l i := by rw [nS_succ f h, hf, Int.add_zero]
theorem nS_all (f : It → Int) (l : List It) : nS f l l.length = (l.map f).sum := by
  unfold nS
  rw [List.take_length]
def sS (room : Int) (l : List It) (i : Nat) : List V := [V.int (room + nS (It.str 0) l i), .int (nS (It.str 1) l i), .int (nS (It.str 2) l i), .int (nS (It.str 3) l i)]
theorem str_no (o : Int) {y : It} (h : y.isGlue = false) : It.str o y = 0 := by
  cases y with
  | glue n s o k => cases h
  | box w => rfl
  | part a b c => rfl
  | pen p => rfl
theorem sS_same (room : Int) {l : List It} {i : Nat} {y : It} (h : l[i]? = some y) (hy : y.isGlue = false) : sS room l (i + 1) = sS room l i := by
  unfold sS
  rw [nS_same _ h (str_no 0 hy), nS_same _ h (str_no 1 hy), nS_same _ h (str_no 2 hy), nS_same _ h (str_no 3 hy)]
theorem sS_glue (room : Int) {l : List It} {i : Nat} {n s o k : Int} (h : l[i]? = some (.glue n s o k)) (ho : 0 ≤ o ∧ o ≤ 3) : ∃ (j : Nat) (c : Int), o = (j : Int) ∧ j < 4 ∧ (sS room l i)[j]? = some (.int c) ∧ (sS room l i).set j (.int (c + s)) = sS room l (i + 1) := by
  have g : ∀ o', nS (It.str o') l (i + 1) = nS (It.str o') l i + (if o = o' then s else 0) := fun o' => nS_succ _ h
  have hc : o = 0 ∨ o = 1 ∨ o = 2 ∨ o = 3 := by omega
  unfold sS
  rw [g 0, g 1, g 2, g 3]
  rcases hc with rfl | rfl | rfl | rfl
  · exact ⟨0, room + nS (It.str 0) l i, rfl, by decide, rfl, by simp [Int.add_assoc]⟩
  · exact ⟨1, nS (It.str 1) l i, rfl, by decide, rfl, by simp⟩
  · exact ⟨2, nS (It.str 2) l i, rfl, by decide, rfl, by simp⟩
  · exact ⟨3, nS (It.str 3) l i, rfl, by decide, rfl, by simp⟩
def It.isBox : It → Bool
  | .box _ => true
  | _ => false
theorem tag_box (it : It) : decide (V.str it.tag = V.str "box") = it.isBox := by
  rw [tag_dec]
  have b0 : decide (("box" : Str) = "box") = true := by decide +kernel
  have b1 : decide (("glue" : Str) = "box") = false := by decide +kernel
  have b2 : decide (("part" : Str) = "box") = false := by decide +kernel
  have b3 : decide (("penalty" : Str) = "box") = false := by decide +kernel
  cases it with
  | box w => exact b0
  | glue n s o k => exact b1
  | part a b c => exact b2
  | pen p => exact b3
/-- arguments whose values a word tells -/
def EvAR (ta : TA) (σ : L2.St) (H : Hp) (R : List V → Hp → Prop) : Prop := ∀ H1, Ex H H1 → ∀ Q : List V → Hp → Prop, (∀ vs H2, Ex H1 H2 → R vs H2 → Q vs H2) → ta σ H1 Q
theorem ear_of {σ : L2.St} {H : Hp} {ta : TA} {vs : List V} {R : List V → Hp → Prop} (h : EvA ta σ H vs) (hR : ∀ H1, Ex H H1 → R vs H1) : EvAR ta σ H R := fun H1 e Q q => h H1 e _ fun H2 e2 => q _ H2 e2 (hR H2 (e.trans e2))
theorem ear_cons {σ : L2.St} {H : Hp} {te : TE} {tr : TA} {R1 : V → Hp → Prop} {R : List V → Hp → Prop} (h : EvR te σ H R1) (hr : ∀ v H1, Ex H H1 → R1 v H1 → EvAR tr σ H1 fun vs H2 => R (v :: vs) H2) : EvAR (tCons te tr) σ H R := fun H1 e Q q =>
  h H1 e _ fun v H2 e2 r => hr v H2 (e.trans e2) r H2 (Ex.refl H2) _ fun vs H3 e3 r3 => q _ H3 (e2.trans e3) r3
theorem ear_ev {σ : L2.St} {H : Hp} {te : TE} {v : V} {tr : TA} {R : List V → Hp → Prop} (h : Ev te σ H v) (hr : ∀ H1, Ex H H1 → EvAR tr σ H1 fun vs H2 => R (v :: vs) H2) : EvAR (tCons te tr) σ H R := fun H1 e Q q =>
  h H1 e _ fun H2 e2 => hr H2 (e.trans e2) H2 (Ex.refl H2) _ fun vs H3 e3 r3 => q _ H3 (e2.trans e3) r3
theorem ear_nil {σ : L2.St} {H : Hp} {R : List V → Hp → Prop} (h : ∀ H1, Ex H H1 → R [] H1) : EvAR tNil σ H R := ear_of ea_nil h
theorem q_unpR {K : PySem.W.Frag} {σ : L2.St} {H : Hp} {D : Ends} {tz : TS} {n : Nat} {ta : TA} {tg : TGs} {R : List V → Hp → Prop} (h : EvAR ta σ H R) (hn : n ≤ 100000) (k : ∀ vs H1, Ex H H1 → R vs H1 → vs.length = n ∧ ∀ H2, Ex H1 H2 → tg vs σ H2 fun σ' H' => tz D σ' H') : tSeq (tAsg (tTup ta) (gTup K n tg)) tz D σ H :=
  h H (Ex.refl H) _ fun vs H1 e1 r => by
    obtain ⟨hl, hk⟩ := k vs H1 e1 r
    exact ⟨sz_of (by omega), fun p hp => ⟨p, vs, rfl, st_of upd_same, hl, hk _ (Ex.new hp)⟩⟩
theorem q_par {σ : L2.St} {H : Hp} {D : Ends} {tz : TS} {i j : Nat} {ta : TA} {v w : V} (h : EvA ta σ H [v, w]) (k : ∀ H1, Ex H H1 → tz D ((σ.set i (some v)).set j (some w)) H1) : tSeq (tPar i j ta) tz D σ H := h H (Ex.refl H) _ fun H1 e => ⟨v, w, rfl, k H1 e⟩
theorem s_par {σ : L2.St} {H : Hp} {D : Ends} {i j : Nat} {ta : TA} {v w : V} (h : EvA ta σ H [v, w]) (k : ∀ H1, Ex H H1 → D.nx ((σ.set i (some v)).set j (some w)) H1) : tPar i j ta D σ H := h H (Ex.refl H) _ fun H1 e => ⟨v, w, rfl, k H1 e⟩
theorem lst_er {σ : L2.St} {H : Hp} {te : TE} {xs : List V} (h : EvL te σ H xs) : EvR te σ H fun v H' => ∃ p, v = .ref p ∧ H p = none ∧ H' p = some (.lst xs) := fun H1 e Q q => h H1 e _ fun p H2 hp e2 h2 => q _ H2 e2 ⟨p, rfl, fresh_back e hp, h2⟩
def EvPs : List (TE × TE) → L2.St → Hp → List (Key × V) → Prop
  | [], _, _, [] => True
  | (tk, tv) :: r, σ, H, (k, v) :: l => Ev tk σ H (kV k) ∧ Ev tv σ H v ∧ EvPs r σ H l
  | _, _, _, _ => False
section
variable {K : PySem.W.Frag} {σ : L2.St} {H : Hp} {te td : TE} {D : Ends} {tz : TS}
theorem ev_pairs : ∀ {trs : List (TE × TE)} {kvs : List (Key × V)} {H : Hp}, EvPs trs σ H kvs → ∀ H1, Ex H H1 → ∀ Q : List (V × V) → Hp → Prop, (∀ H2, Ex H1 H2 → Q (kvs.map fun kv => (kV kv.1, kv.2)) H2) → tPairs trs σ H1 Q
  | [], [], _, _, H1, _, Q, q => q H1 (Ex.refl H1)
  | (tk, tv) :: r, (k, v) :: l, H, h, H1, e, Q, q => h.1 H1 e _ fun H2 e2 => h.2.1 H2 (e.trans e2) _ fun H3 e3 => ev_pairs (H := H) h.2.2 H3 ((e.trans e2).trans e3) _ fun H4 e4 => q H4 ((e2.trans e3).trans e4)
  | [], _ :: _, _, h, _, _, _, _ => h.elim
  | _ :: _, [], _, h, _, _, _, _ => h.elim
theorem v_disp {trs : List (TE × TE)} {kvs : List (Key × V)} {Q : VK} (h : EvPs trs σ H kvs) (hl : kvs.length ≤ 15) (k : ∀ p H1, H p = none → Ex H H1 → H1 p = some (.dK (mergeK [] kvs)) → Q (.ref p) H1) : tDisp trs σ H Q := fun p hp =>
  ev_pairs h _ (Ex.new hp) _ fun H2 e2 => ⟨e2 _ _ upd_same, kvs, rfl, hl, k p _ hp (Ex.mut ((Ex.new hp).trans e2) hp) upd_same⟩
end
def EvPsR : List (TE × TE) → List Key → L2.St → Hp → (List V → Hp → Prop) → Prop
  | [], [], _, H, R => ∀ H1, Ex H H1 → R [] H1
  | (tk, tv) :: r, k :: ks, σ, H, R => Ev tk σ H (kV k) ∧ ∃ R1 : V → Hp → Prop, EvR tv σ H R1 ∧ ∀ v H1, Ex H H1 → R1 v H1 → EvPsR r ks σ H1 fun vs H2 => R (v :: vs) H2
  | _, _, _, _, _ => False
theorem evR_pairs : ∀ {trs : List (TE × TE)} {ks : List Key} {σ : L2.St} {H : Hp} {R : List V → Hp → Prop}, EvPsR trs ks σ H R → ∀ H1, Ex H H1 → ∀ Q : List (V × V) → Hp → Prop, (∀ vs H2, Ex H1 H2 → vs.length = ks.length → R vs H2 → Q ((ks.zip vs).map fun kv => (kV kv.1, kv.2)) H2) → tPairs trs σ H1 Q
  | [], [], _, _, _, h, H1, e, Q, q => q [] H1 (Ex.refl H1) rfl (h H1 e)
  | (tk, tv) :: r, k :: ks, σ, H, R, h, H1, e, Q, q => by
    obtain ⟨h1, R1, h2, h3⟩ := h
    exact h1 H1 e _ fun H2 e2 => h2 H2 (e.trans e2) _ fun v H3 e3 r3 => evR_pairs (h3 v H3 ((e.trans e2).trans e3) r3) H3 (Ex.refl H3) _ fun vs H4 e4 hl r4 => q (v :: vs) H4 ((e2.trans e3).trans e4) (by simp [hl]) r4
  | [], _ :: _, _, _, _, h, _, _, _, _ => h.elim
  | _ :: _, [], _, _, _, h, _, _, _, _ => h.elim
theorem vR_disp {σ : L2.St} {H : Hp} {trs : List (TE × TE)} {ks : List Key} {Q : VK} {R : List V → Hp → Prop} (h : ∀ H1, Ex H H1 → EvPsR trs ks σ H1 R) (hl : ks.length ≤ 15) (k : ∀ p vs H2, H p = none → Ex H H2 → R vs H2 → ∀ H3, H3 = upd H2 p (.dK (mergeK [] (ks.zip vs))) → Ex H H3 → Q (.ref p) H3) : tDisp trs σ H Q := fun p hp =>
  evR_pairs (h _ (Ex.new hp)) _ (Ex.refl _) _ fun vs H2 e2 hv r => ⟨e2 _ _ upd_same, ks.zip vs, rfl, by rw [List.length_zip, hv, Nat.min_self]; exact hl, k p vs H2 hp ((Ex.new hp).trans e2) r _ rfl (Ex.mut ((Ex.new hp).trans e2) hp)⟩
theorem evps_ev {σ : L2.St} {H : Hp} {tk tv : TE} {trs : List (TE × TE)} {k : Key} {ks : List Key} {v : V} {R : List V → Hp → Prop} (hk : Ev tk σ H (kV k)) (hv : Ev tv σ H v) (hr : ∀ H1, Ex H H1 → EvPsR trs ks σ H1 fun vs H2 => R (v :: vs) H2) : EvPsR ((tk, tv) :: trs) (k :: ks) σ H R :=
  ⟨hk, fun v' _ => v' = v, er_of hv fun _ _ => rfl, fun v' H1 e h => by
    rw [h]
    exact hr H1 e⟩
theorem q_disp {σ : L2.St} {H : Hp} {D : Ends} {tz : TS} {i : Nat} {trs : List (TE × TE)} {ks : List Key} {R : List V → Hp → Prop} (h : ∀ H1, Ex H H1 → EvPsR trs ks σ H1 R) (hl : ks.length ≤ 15) (k : ∀ p vs H2, H p = none → Ex H H2 → R vs H2 → ∀ H3, H3 = upd H2 p (.dK (mergeK [] (ks.zip vs))) → Ex H H3 → tz D (σ.set i (some (.ref p))) H3) : tSeq (tAsg (tDisp trs) (gName i)) tz D σ H := vR_disp (Q := fun x H1 => tz D (σ.set i (some x)) H1) h hl k
/-- d.update({..}) -/
theorem q_upd {K : PySem.W.Frag} {σ : L2.St} {H : Hp} {D : Ends} {tz : TS} {te : TE} {d : Addr} {kvs : List (Key × V)} {trs : List (TE × TE)} {ks : List Key} {vs : List V} (hd : Ev te σ H (.ref d)) (hk : H d = some (.dK kvs)) (h : ∀ H1, Ex H H1 → EvPsR trs ks σ H1 fun ws _ => ws = vs) (hl : ks.length ≤ 15) (hn : kvs.length ≤ 1000) (hvl : vs.length ≤ 15)
    (k : ∀ H3, (∀ H0, H0 d = none → Ex H0 H → Ex H0 H3) → H3 d = some (.dK (mergeK kvs (mergeK [] (ks.zip vs)))) → tz D σ H3) : tSeq (tDrop (tBM K "dict" rUpd te (tCons (tDisp trs) tNil))) tz D σ H :=
  hd H (Ex.refl H) _ fun H1 e1 => ⟨.inr (.inr (.inl ⟨rfl, .inl ⟨kvs, e1 _ _ hk⟩⟩)), vR_disp (R := fun ws _ => ws = vs) (fun H2 e2 => h H2 (e1.trans e2)) hl fun p ws H2 hp e2 hw H3 h3 e3 => by
    have hdp : d ≠ p := fun z => by
      rw [z] at hk
      have := e1 _ _ hk
      rw [hp] at this
      cases this
    rw [hw] at h3
    have hl2 := length_mergeK (ks.zip vs) []
    rw [List.length_zip] at hl2
    have hl3 : min ks.length vs.length ≤ ks.length := Nat.min_le_left _ _
    refine ⟨d, p, kvs, mergeK [] (ks.zip vs), rfl, rfl, hdp, (e1.trans e3) _ _ hk, by rw [h3, upd_same], ?_, ?_⟩
    · simp only [List.length_nil] at hl2
      omega
    · exact k _ (fun H0 h0 e0 => Ex.mut (e0.trans (e1.trans e3)) h0) upd_same⟩
def told1 (a b c d e : V) : List (Key × V) := mergeK [] (List.zip [.inr "start", .inr "natural", .inr "width", .inr "rest", .inr "stretches"] [a, b, c, d, e])
def told2 (a b c d e f g h : V) : List (Key × V) := mergeK (told1 a b c d e) (mergeK [] (List.zip [.inr "shrink", .inr "badness", .inr "kind"] [f, g, h]))
def told3 (a b c d e f g h i j k : V) : List (Key × V) := mergeK (told2 a b c d e f g h) (mergeK [] (List.zip [.inr "full", .inr "wrong", .inr "penalty"] [i, j, k]))
theorem told3_bad (a b c d e f g h i j k : V) : valV (told3 a b c d e f g h i j k) (.inr "badness") = some g := by kernel_rfl
theorem told3_kind (a b c d e f g h i j k : V) : valV (told3 a b c d e f g h i j k) (.inr "kind") = some h := by kernel_rfl
theorem told3_full (a b c d e f g h i j k : V) : valV (told3 a b c d e f g h i j k) (.inr "full") = some i := by kernel_rfl
theorem told3_wrong (a b c d e f g h i j k : V) : valV (told3 a b c d e f g h i j k) (.inr "wrong") = some j := by kernel_rfl
theorem told3_pen (a b c d e f g h i j k : V) : valV (told3 a b c d e f g h i j k) (.inr "penalty") = some k := by kernel_rfl
/-- tuple(a list) -/
theorem er_tupOf {K : PySem.W.Frag} {σ : L2.St} {H : Hp} {te : TE} {a : Addr} {xs : List V} (h : Ev te σ H (.ref a)) (ha : H a = some (.lst xs)) : EvR (tCB (fun xs H Q => ∃ p ys, xs = [.ref p] ∧ ((SqL K H p ys ∧ ∀ l, H l = none → Q (.ref l) (upd H l (.tup ys))) ∨ (SqT K H p ys ∧ Q (.ref p) H))) (tCons te tNil)) σ H fun v H' => ∃ b, v = .ref b ∧ H' b = some (.tup xs) := fun H1 e Q q =>
  h H1 e _ fun H2 e2 => ⟨a, xs, rfl, .inl ⟨sq_of (e2 _ _ (e _ _ ha)), fun l hl => q _ _ (e2.trans (Ex.new hl)) ⟨l, rfl, upd_same⟩⟩⟩
theorem q_ifM {σ : L2.St} {H : Hp} {D : Ends} {tz tu tw : TS} {t : TT} {b : Bool} (M : L2.St → Hp → Prop) (h : EvT t σ H b) (h1 : b = true → ∀ H1, Ex H H1 → ∀ D' : Ends, (∀ σ' H', M σ' H' → D'.nx σ' H') → tu D' σ H1) (h2 : b = false → ∀ H1, Ex H H1 → ∀ D' : Ends, (∀ σ' H', M σ' H' → D'.nx σ' H') → tw D' σ H1) (k : ∀ σ' H', M σ' H' → tz D σ' H') : tSeq (tIfS t tu tw) tz D σ H :=
  q_if h (fun hb H1 e => h1 hb H1 e _ k) fun hb H1 e => h2 hb H1 e _ k
section
variable {K : PySem.W.Frag} {σ : L2.St} {H : Hp} {te tb : TE}
theorem et_tag {x : Str} {v : V} {it : It} {b : Bool} (h : Ev te σ H v) (hi : ItAt GTup H v it) (hb : decide (V.str it.tag = V.str x) = b) : EvT (tTest (tOp rEq (tOp (rIxT K) te (tC (.int 0))) (tC (.str x)))) σ H b := by
  obtain ⟨a, xs, rfl, ha⟩ := hi.tag
  exact et_is (et_test (ev_op (ev_ixT h ev_c ha at0) ev_c (rv_eq rfl))) hb
theorem ev_ifI {ta tc : TE} {t : TT} {i j : Int} {q : Prop} [Decidable q] (h : EvT t σ H (decide q)) (h1 : q → Ev ta σ H (.int i)) (h2 : ¬ q → Ev tc σ H (.int j)) : Ev (tIf t ta tc) σ H (.int (if q then i else j)) := ev_if h (fun hb => by
    have hb := of_decide_eq_true hb
    rw [if_pos hb]
    exact h1 hb) fun hb => by
    have hb := of_decide_eq_false hb
    rw [if_neg hb]
    exact h2 hb
theorem ev_ahead {v : V} {it : It} (h : Ev te σ H v) (hi : ItAt GTup H v it) : Ev (tIf (tTest (tOp rEq (tOp (rIxT K) te (tC (.int 0))) (tC (.str "part")))) (tOp (rIxT K) te (tC (.int 1))) (tC (.int 0))) σ H (.int it.ahead) := by
  refine ev_if (et_tag h hi (tag_part it)) (fun hb => ?_) fun hb => ?_
  · cases hi with
    | part q => exact ev_ixT h ev_c q at1
    | box q => cases hb
    | glue q g => cases hb
    | pen q => cases hb
  · cases it with
    | part a b c => cases hb
    | box q => exact ev_c
    | glue n s o k => exact ev_c
    | pen q => exact ev_c
end
theorem bad_pos {r : Row} {u : Ru} {p : Int} {e : Nat} {n : Int} (hb : Bd r u) (h : 0 ≤ restOf r u p e n) : fullOf r u p e n = 0 ∧ badOf r u p e n = if 0 < ([strOf r 1 p e, strOf r 2 p e, strOf r 3 p e] : List Int).sum then 0 else badBy (restOf r u p e n) (u.room + strOf r 0 p e) := by
  have s0 : 0 ≤ shrOf r p e := (hb.shr _ _).1
  have s1 : 0 ≤ strOf r 1 p e := (hb.str 1 _ _).1
  have s2 : 0 ≤ strOf r 2 p e := (hb.str 2 _ _).1
  have s3 : 0 ≤ strOf r 3 p e := (hb.str 3 _ _).1
  have f0 : fullOf r u p e n = 0 := by
    unfold fullOf
    omega
  refine ⟨f0, ?_⟩
  unfold badOf
  rw [f0, if_neg (by omega), if_neg (by omega), Int.add_comm u.room]
  show _ = if 0 < strOf r 1 p e + (strOf r 2 p e + (strOf r 3 p e + 0)) then 0 else _
  by_cases g : 0 < strOf r 1 p e ∨ 0 < strOf r 2 p e ∨ 0 < strOf r 3 p e
  · rw [if_pos g, if_pos (by omega)]
  · rw [if_neg g, if_neg (by omega)]
theorem bad_neg {r : Row} {u : Ru} {p : Int} {e : Nat} {n : Int} (h : restOf r u p e n < 0) (h2 : 0 - restOf r u p e n ≤ shrOf r p e) : fullOf r u p e n = 0 ∧ badOf r u p e n = badBy (0 - restOf r u p e n) (shrOf r p e) := by
  have f0 : fullOf r u p e n = 0 := by
    unfold fullOf
    omega
  refine ⟨f0, ?_⟩
  unfold badOf
  rw [f0, if_neg (by omega), if_pos h, Int.zero_sub]
theorem bad_full {r : Row} {u : Ru} {p : Int} {e : Nat} {n : Int} (h2 : ¬ 0 - restOf r u p e n ≤ shrOf r p e) : fullOf r u p e n = 0 - restOf r u p e n - shrOf r p e ∧ badOf r u p e n = 10000 := by
  have f0 : fullOf r u p e n = 0 - restOf r u p e n - shrOf r p e := by
    unfold fullOf
    omega
  refine ⟨f0, ?_⟩
  unfold badOf
  rw [f0, if_pos (by omega)]
section
variable {P : Program} {w : World} {K : PySem.W.Frag} {mg : Str → Option Value} {base : Heap} {cG cR cL aF cC Pt : Addr}
/-- what is told of a line -/
def LineAt (H : Hp) (v : V) (r : Row) (u : Ru) (p : Int) (e : Nat) (n : Int) : Prop := ∃ a kvs, v = .ref a ∧ H a = some (.dK kvs) ∧ valV kvs (.inr "badness") = some (.int (badOf r u p e n)) ∧ valV kvs (.inr "kind") = some (.int (clsOf r u p e n)) ∧ valV kvs (.inr "full") = some (.int (fullOf r u p e n)) ∧
  valV kvs (.inr "wrong") = some (.bl (wrongOf r u p e n)) ∧ valV kvs (.inr "penalty") = some (.int (penOf r u e))
theorem LineAt.mono {H H' : Hp} {v : V} {r : Row} {u : Ru} {p : Int} {e : Nat} {n : Int} (x : Ex H H') (h : LineAt H v r u p e n) : LineAt H' v r u p e n := by
  obtain ⟨a, kvs, h1, h2, h3⟩ := h
  exact ⟨a, kvs, h1, x _ _ h2, h3⟩
abbrev st_law_line_told : Stmt := top 87
def nm_law_line_told : List Str := ["_law_plain", "_law_rules", "_law_place", "_law_end", "_law_number", "_law_start", "_law_natural", "_law_stretches", "_law_shrink", "_law_item", "_law_width", "_law_rest", "_law_full", "_law_far", "_law_badness", "_law_kind", "_law_is_wrong", "_law_penalty", "_law_found"]
theorem sc_law_line_told : FnScope nm_law_line_told ["_law_plain", "_law_rules", "_law_place", "_law_end", "_law_number"] (defScope st_law_line_told) := ⟨rfl, rfl, rfl, by decide +kernel, rfl, by decide +kernel, by decide +kernel⟩
def sp_law_line_told : Sp := spR fun vs H R => ∃ x y r u, ∃ (p : Int) (e : Nat) (n : Int), vs = [x, y, .int p, .int (e : Int), .int n] ∧ PlainAt H x r ∧ RDictAt H y u ∧ Bd r u ∧ Pl r p ∧ e ∈ nexts r u.hyp p ∧ (1 ≤ n ∧ n ≤ 1000) ∧ R = fun v H2 => LineAt H2 v r u p e n
theorem ok_law_line_told (T : Tx K mg cG cR cL aF) (D : DefAt K mg "_law_line_told" "_law_line_told" "_law_line_told" st_law_line_told) (c_law_line_start : Cal P w K mg base "_law_line_start" ["_law_plain", "_law_place"] 1 sp_law_line_start)
    (c_law_line_badness : Cal P w K mg base "_law_line_badness" ["_law_wanted", "_law_room"] 1 sp_badness_by) : Cal P w K mg base "_law_line_told" ["_law_plain", "_law_rules", "_law_place", "_law_end", "_law_number"] 2 sp_law_line_told := by
  refine cal_of D sc_law_line_told (fun _ _ _ _ _ _ us hl => match us, hl with | [_, _, _, _, _], _ => rfl) (fun vs H Q E h => ?_) (fun f cdv A outer s H vs Q E hr h => ?_)
  · obtain ⟨R, ⟨x, y, r, u, p, e, n, rfl, _⟩, _⟩ := h
    rfl
  · obtain ⟨R, ⟨x, y, r, u, p, e, n, rfl, hx, hy, hbd, hp, he, hn, rfl⟩, k⟩ := h
    refine ⟨_, (pss_cons (ps_asg (pe_tup (pa_cons (pe_cal c_law_line_start (hr.mono (by decide)) (pa_cons (pv 0) (pa_cons (pv 2) pa_nil))) (pa_cons pe_int (pa_cons (pe_lst (pa_cons (pe_dget hr.u1 (pv 1) pe_str (fun _ _ => rfl)) (pa_cons pe_int (pa_cons pe_int (pa_cons pe_int pa_nil))))) (pa_cons pe_int pa_nil))))) (pg_tup rfl (pgs_cons (pg_name (i := 5) sc_law_line_told.nd rfl (Or.inl rfl)) (pgs_cons (pg_name (i := 6) sc_law_line_told.nd rfl (Or.inl rfl)) (pgs_cons (pg_name (i := 7) sc_law_line_told.nd rfl (Or.inl rfl)) (pgs_cons (pg_name (i := 8) sc_law_line_told.nd rfl (Or.inl rfl)) pgs_nil))))))
      (pss_cons (ps_for PassesOwn.never rfl (pi_list (pe_slice sl_list (pv 0) (po_some (pv 5)) (po_some (pv 3)))) (pg_name (i := 9) sc_law_line_told.nd rfl (Or.inl rfl)) (pss_cons (ps_if (pt_cmpR op_eq (pe_ix ix_tup (pv 9) pe_int (fun _ _ => rfl)) pe_str (nomark _)) (pss_one (ps_set (i := 6) sc_law_line_told.nd rfl (Or.inl rfl) (pe_op op_add (pv 6) (pe_ix ix_tup (pv 9) pe_int (fun _ _ => rfl))))) pss_nil)
      (pss_cons (ps_if (pt_cmpR op_eq (pe_ix ix_tup (pv 9) pe_int (fun _ _ => rfl)) pe_str (nomark _)) (pss_one (ps_set (i := 6) sc_law_line_told.nd rfl (Or.inl rfl) (pe_op op_add (pv 6) (pe_ix ix_tup (pv 9) pe_int (fun _ _ => rfl))))) pss_nil)
      (pss_one (ps_if (pt_cmpR op_eq (pe_ix ix_tup (pv 9) pe_int (fun _ _ => rfl)) pe_str (nomark _)) (pss_cons (ps_par (i := 6) (j := 8) (by rfl) sc_law_line_told.nd rfl rfl (by decide) rfl rfl (pa_cons (pe_op op_add (pv 6) (pe_ix ix_tup (pe_ix ix_tup (pv 9) pe_int (fun _ _ => rfl)) pe_int (fun _ _ => rfl))) (pa_cons (pe_op op_add (pv 8) (pe_ix ix_tup (pe_ix ix_tup (pv 9) pe_int (fun _ _ => rfl)) pe_int (fun _ _ => rfl))) pa_nil)) (by rfl))
      (pss_one (ps_asg (pe_op op_add (pe_ix ix_list (pv 7) (pe_ix ix_tup (pe_ix ix_tup (pv 9) pe_int (fun _ _ => rfl)) pe_int (fun _ _ => rfl)) (fun _ _ => rfl)) (pe_ix ix_tup (pe_ix ix_tup (pv 9) pe_int (fun _ _ => rfl)) pe_int (fun _ _ => rfl))) (pg_sub (pv 7) (pe_ix ix_tup (pe_ix ix_tup (pv 9) pe_int (fun _ _ => rfl)) pe_int (fun _ _ => rfl)) set_list)))) pss_nil)))))
      (pss_cons (ps_set (i := 6) sc_law_line_told.nd rfl (Or.inl rfl) (pe_op op_add (pv 6) (pe_ifExp (PW.pt (pw_and (pt_cmpR op_ge (pv 2) pe_int (nomark _)) (pw_and1 (pt_cmpR op_eq (pe_ix ix_tup (pe_ix ix_list (pv 0) (pv 2) (fun _ _ => rfl)) pe_int (fun _ _ => rfl)) pe_str (nomark _))))) (pe_ix ix_tup (pe_ix ix_list (pv 0) (pv 2) (fun _ _ => rfl)) pe_int (fun _ _ => rfl)) pe_int)))
      (pss_cons (ps_set (i := 6) sc_law_line_told.nd rfl (Or.inl rfl) (pe_op op_add (pv 6) (pe_ifExp (pt_cmpR op_eq (pe_ix ix_tup (pe_ix ix_list (pv 0) (pv 3) (fun _ _ => rfl)) pe_int (fun _ _ => rfl)) pe_str (nomark _)) (pe_ix ix_tup (pe_ix ix_list (pv 0) (pv 3) (fun _ _ => rfl)) pe_int (fun _ _ => rfl)) pe_int)))
      (pss_cons (ps_set (i := 10) sc_law_line_told.nd rfl (Or.inl rfl) (pe_ix ix_tup (pe_dget hr.u1 (pv 1) pe_str (fun _ _ => rfl)) (pe_op op_sub (pe_callB (call_min2 rfl) (by rfl) T.min_ (by decide +kernel) (pa_cons (pv 4) (pa_cons (pe_callB call_len_seq (by rfl) T.len_ (by decide +kernel) (pa_cons (pe_dget hr.u1 (pv 1) pe_str (fun _ _ => rfl)) pa_nil)) pa_nil))) pe_int) (fun _ _ => rfl)))
      (pss_cons (ps_par (i := 11) (j := 12) (by rfl) sc_law_line_told.nd rfl rfl (by decide) rfl rfl (pa_cons (pe_op op_sub (pv 10) (pv 6)) (pa_cons pe_int pa_nil)) (by rfl))
      (pss_cons (ps_if (pt_cmpR op_ge (pv 11) pe_int (nomark _)) (pss_cons (ps_set (i := 13) sc_law_line_told.nd rfl (Or.inl rfl) (pe_callB (cr_sum rfl) (by rfl) T.sum_ (by decide +kernel) (pa_cons (pe_slice sl_list (pv 7) (po_some pe_int) po_none) pa_nil)))
      (pss_one (ps_set (i := 14) sc_law_line_told.nd rfl (Or.inl rfl) (pe_ifExp (pt_cmpR op_gt (pv 13) pe_int (nomark _)) pe_int (pe_cal c_law_line_badness (hr.mono (by decide)) (pa_cons (pv 11) (pa_cons (pe_ix ix_list (pv 7) pe_int (fun _ _ => rfl)) pa_nil))))))) (pss_one (ps_if (pt_cmpR op_le (pe_op op_sub pe_int (pv 11)) (pv 8) (nomark _)) (pss_one (ps_set (i := 14) sc_law_line_told.nd rfl (Or.inl rfl) (pe_cal c_law_line_badness (hr.mono (by decide)) (pa_cons (pe_op op_sub pe_int (pv 11)) (pa_cons (pv 8) pa_nil))))) (pss_one (ps_par (i := 14) (j := 12) (by rfl) sc_law_line_told.nd rfl rfl (by decide) rfl rfl (pa_cons pe_int (pa_cons (pe_op op_sub (pe_op op_sub pe_int (pv 11)) (pv 8)) pa_nil)) (by rfl))))))
      (pss_cons (ps_set (i := 15) sc_law_line_told.nd rfl (Or.inl rfl) (pe_ifExp (pt_cmpR op_le (pv 14) pe_int (nomark _)) pe_int (pe_ifExp (pt_cmpR op_lt (pv 11) pe_int (nomark _)) pe_int (pe_ifExp (pt_cmpR op_le (pv 14) pe_int (nomark _)) pe_int pe_int))))
      (pss_cons (ps_set (i := 16) sc_law_line_told.nd rfl (Or.inl rfl) (pe_or (pe_cmpR op_gt (pv 12) pe_int (nomark _)) (pe_one (pe_cmpR op_gt (pv 14) (pe_dget hr.u1 (pv 1) pe_str (fun _ _ => rfl)) (nomark _)))))
      (pss_cons (ps_set (i := 17) sc_law_line_told.nd rfl (Or.inl rfl) (pe_ifExp (pt_cmpR op_eq (pe_ix ix_tup (pe_ix ix_list (pv 0) (pv 3) (fun _ _ => rfl)) pe_int (fun _ _ => rfl)) pe_str (nomark _)) (pe_dget hr.u1 (pv 1) pe_str (fun _ _ => rfl)) pe_int))
      (pss_cons (ps_if (PW.pt (pw_and (pt_cmpR op_eq (pe_ix ix_tup (pe_ix ix_list (pv 0) (pv 3) (fun _ _ => rfl)) pe_int (fun _ _ => rfl)) pe_str (nomark _)) (pw_and1 (pt_cmpR op_gt (pe_ix ix_tup (pe_ix ix_list (pv 0) (pv 3) (fun _ _ => rfl)) pe_int (fun _ _ => rfl)) (pe_un un_neg pe_int) (nomark _))))) (pss_one (ps_set (i := 17) sc_law_line_told.nd rfl (Or.inl rfl) (pe_ix ix_tup (pe_ix ix_list (pv 0) (pv 3) (fun _ _ => rfl)) pe_int (fun _ _ => rfl)))) pss_nil)
      (pss_cons (ps_set (i := 18) sc_law_line_told.nd rfl (Or.inl rfl) (pe_disp (pps_cons pe_str (pv 5) (pps_cons pe_str (pv 6) (pps_cons pe_str (pv 10) (pps_cons pe_str (pv 11) (pps_cons pe_str (pe_callTy call_tuple_of (by rfl) T.tuple_ (by decide +kernel) (pa_cons (pv 7) pa_nil)) pps_nil))))) rfl rfl (by exact fun h => nomatch h) (by decide)))
      (pss_cons (ps_expr (pe_bm PySem.F.plainAttrs_dict PySem.F.slot_dict_update PySem.F.type_dict_update mt_update (pv 18) (pa_cons (pe_disp (pps_cons pe_str (pv 8) (pps_cons pe_str (pv 14) (pps_cons pe_str (pv 15) pps_nil))) rfl rfl (by exact fun h => nomatch h) (by decide)) pa_nil)))
      (pss_cons (ps_expr (pe_bm PySem.F.plainAttrs_dict PySem.F.slot_dict_update PySem.F.type_dict_update mt_update (pv 18) (pa_cons (pe_disp (pps_cons pe_str (pv 12) (pps_cons pe_str (pv 16) (pps_cons pe_str (pv 17) pps_nil))) rfl rfl (by exact fun h => nomatch h) (by decide)) pa_nil)))
      (pss_one (ps_ret (pv 18))))))))))))))))), ?_⟩
    obtain ⟨a, ws, rfl, ha, hi⟩ := id hx
    obtain ⟨d, kvs, rfl, hd, hrd⟩ := hy
    have hl := paired_len hi
    have hlen := hbd.len
    obtain ⟨hel, _, hse⟩ := nexts_mem he
    refine q_unpR (R := fun vs H1 => ∃ l, vs = [.int (startOf r p : Int), .int 0, .ref l, .int 0] ∧ H l = none ∧ H1 l = some (.lst [.int u.room, .int 0, .int 0, .int 0])) (ear_ev (ev_calV (ea_cons (ev_var rfl) (ea_cons (ev_var rfl) ea_nil)) fun H1 e1 => ⟨_, r, p, rfl, hx.mono e1, hbd.ok, hp, by omega, rfl⟩) fun H1 e1 => ear_ev ev_c fun H2 e2 =>
      ear_cons (lst_er (el_lst (vs := [.int u.room, .int 0, .int 0, .int 0]) (ea_cons (ev_dget (k := .inr "room") (ev_var rfl) ev_c ((e1.trans e2) _ _ hd) hrd.room) (ea_cons ev_c (ea_cons ev_c (ea_cons ev_c ea_nil)))) (by show 4 ≤ 100000; decide))) fun v H3 e3 ⟨l, hv, hl0, hl3⟩ => ear_ev ev_c fun H4 e4 => ear_nil fun H5 e5 => ⟨l, by rw [hv], fresh_back (e1.trans e2) hl0, e5 _ _ (e4 _ _ hl3)⟩) (by show 4 ≤ 100000; decide) fun vs H1 e1 hvs => ?_
    obtain ⟨l, rfl, hl0, hl1⟩ := hvs
    refine ⟨rfl, fun H2 e2 => ⟨_, _, rfl, _, _, rfl, _, _, rfl, _, _, rfl, rfl, ?_⟩⟩
    have e2 := e1.trans e2
    have hl2 : H2 l = some (.lst [.int u.room, .int 0, .int 0, .int 0]) := ‹Ex H1 H2› _ _ hl1
    have hseg : ItsAt GTup H ((ws.drop (startOf r p)).take (e - startOf r p)) (seg r (startOf r p) e) := paired_seg _ _ hi
    have hsegl := paired_len hseg
    have segl : (seg r (startOf r p) e).length ≤ 12 := Nat.le_trans (seg_len r _ _) hbd.len
    have hcut : cutV ws (some (startOf r p : Int)) (some (e : Int)) = (ws.drop (startOf r p)).take (e - startOf r p) := cutV_nat (by omega) (by omega)
    have hmem : ∀ x ∈ seg r (startOf r p) e, x.Bd := fun x hx => hbd.its x (mem_seg hx)
    have enat : natOf r p e = ((seg r (startOf r p) e).map It.natW).sum + ((if p = -1 then 0 else (at_ r p.toNat).behind) + (at_ r e).ahead) := rfl
    have eshr : shrOf r p e = ((seg r (startOf r p) e).map It.shr).sum := rfl
    have estr : ∀ o, strOf r o p e = ((seg r (startOf r p) e).map (It.str o)).sum := fun o => rfl
    generalize hys : (ws.drop (startOf r p)).take (e - startOf r p) = ys at hseg hsegl hcut
    generalize hsg : seg r (startOf r p) e = sg at hseg hsegl segl hmem enat eshr estr
    refine q_forNLn (xs := ys) (by rw [← hcut]; exact el_sl (ev_var rfl) (eo_some (ev_var rfl)) (eo_some (ev_var rfl)) (sq_of (e2 _ _ ha)))
      (fun b i σ' H' => (∃ o, σ' = [some (.ref a), some (.ref d), some (.int p), some (.int (e : Int)), some (.int n), some (.int (startOf r p : Int)), some (.int (nS It.natW sg i)), some (.ref l), some (.int (nS It.shr sg i)), o, none, none, none, none, none, none, none, none, none]) ∧ Ex H H' ∧ H' l = some (.lst (sS u.room sg i)) ∧ b ≠ l ∧ H' b = some (.lst ys))
      (fun b H3 hb e3 h3 => ⟨⟨_, rfl⟩, e2.trans e3, ?_, (fun z => by rw [z, hl2] at hb; cases hb), h3⟩) (fun b i σ' H' _ h => sq_of h.2.2.2.2) ?_ ?_
    · rw [e3 _ _ hl2]
      show _ = some (HO.lst [V.int (u.room + 0), .int 0, .int 0, .int 0])
      rw [Int.add_zero]
    · rintro b i x σ' H' hx2 ⟨⟨o, rfl⟩, eH, hlH, bl, hbH⟩
      have hi2 : i < sg.length := by
        have := (List.getElem?_eq_some_iff.mp hx2).1
        omega
      have hy2 : sg[i]? = some sg[i] := List.getElem?_eq_getElem hi2
      obtain ⟨x', hx3, hit⟩ := paired_get hseg hy2
      have hsame : x = x' := Option.some.inj (hx2.symm.trans hx3)
      subst hsame
      have hyb := hmem _ (List.getElem_mem hi2)
      generalize sg[i] = y at hy2 hit hyb
      have hit := hit.mono gTup_mono eH
      have fin : ∀ (vn vs : Int) o' H6, vn = nS It.natW sg (i + 1) → vs = nS It.shr sg (i + 1) → Ex H H6 → H6 l = some (.lst (sS u.room sg (i + 1))) → H6 b = some (.lst ys) → (∃ o, [some (V.ref a), some (.ref d), some (.int p), some (.int (e : Int)), some (.int n), some (.int (startOf r p : Int)), some (.int vn), some (.ref l), some (.int vs), o', none, none, none, none, none, none, none, none, none] = [some (V.ref a), some (.ref d), some (.int p), some (.int (e : Int)), some (.int n), some (.int (startOf r p : Int)), some (.int (nS It.natW sg (i + 1))), some (.ref l), some (.int (nS It.shr sg (i + 1))), o, none, none, none, none, none, none, none, none, none]) ∧ Ex H H6 ∧ H6 l = some (.lst (sS u.room sg (i + 1))) ∧ b ≠ l ∧ H6 b = some (.lst ys) :=
        fun vn vs o' H6 hv1 hv2 e h1 h2 => ⟨⟨o', by rw [hv1, hv2]⟩, e, h1, bl, h2⟩
      have T1 := tag_box y
      have T2 := tag_part y
      have T3 := tag_glue y
      have quiet : ∀ (vn : Int) H6, vn = nS It.natW sg (i + 1) → Ex H' H6 → y.isGlue = false → y.shr = 0 → _ := fun vn H6 hv e6 hg hs => fin vn (nS It.shr sg i) (some x) H6 hv (nS_same It.shr hy2 hs).symm (eH.trans e6) (by rw [sS_same _ hy2 hg]; exact e6 _ _ hlH) (e6 _ _ hbH)
      cases hit with
      | box h =>
        refine q_when (et_is (et_test (ev_op (ev_ixT (ev_var rfl) ev_c h at0) ev_c (rv_eq rfl))) T1) (fun _ H3 e3 => ?_) fun h => nomatch h
        refine s_asg (v := .int (nS It.natW sg (i + 1))) (ev_is (ev_op (ev_var rfl) (ev_ixT (ev_var rfl) ev_c (e3 _ _ h) at1) rv_I0) (by rw [nS_succ _ hy2]; rfl)) fun H4 e4 => ?_
        have h4 := e4 _ _ (e3 _ _ h)
        refine q_when (et_is (et_test (ev_op (ev_ixT (ev_var rfl) ev_c h4 at0) ev_c (rv_eq rfl))) T2) (fun h => nomatch h) fun _ H5 e5 => ?_
        refine s_when (et_is (et_test (ev_op (ev_ixT (ev_var rfl) ev_c (e5 _ _ h4) at0) ev_c (rv_eq rfl))) T3) (fun h => nomatch h) fun _ H6 e6 => ?_
        exact quiet _ H6 rfl (((e3.trans e4).trans e5).trans e6) rfl rfl
      | part h =>
        refine q_when (et_is (et_test (ev_op (ev_ixT (ev_var rfl) ev_c h at0) ev_c (rv_eq rfl))) T1) (fun h => nomatch h) fun _ H3 e3 => ?_
        refine q_when (et_is (et_test (ev_op (ev_ixT (ev_var rfl) ev_c (e3 _ _ h) at0) ev_c (rv_eq rfl))) T2) (fun _ H4 e4 => ?_) fun h => nomatch h
        have h4 := e4 _ _ (e3 _ _ h)
        refine s_asg (v := .int (nS It.natW sg (i + 1))) (ev_is (ev_op (ev_var rfl) (ev_ixT (ev_var rfl) ev_c h4 at3) rv_I0) (by rw [nS_succ _ hy2]; rfl)) fun H5 e5 => ?_
        refine s_when (et_is (et_test (ev_op (ev_ixT (ev_var rfl) ev_c (e5 _ _ h4) at0) ev_c (rv_eq rfl))) T3) (fun h => nomatch h) fun _ H6 e6 => ?_
        exact quiet _ H6 rfl (((e3.trans e4).trans e5).trans e6) rfl rfl
      | pen h =>
        refine q_when (et_is (et_test (ev_op (ev_ixT (ev_var rfl) ev_c h at0) ev_c (rv_eq rfl))) T1) (fun h => nomatch h) fun _ H3 e3 => ?_
        refine q_when (et_is (et_test (ev_op (ev_ixT (ev_var rfl) ev_c (e3 _ _ h) at0) ev_c (rv_eq rfl))) T2) (fun h => nomatch h) fun _ H4 e4 => ?_
        refine s_when (et_is (et_test (ev_op (ev_ixT (ev_var rfl) ev_c (e4 _ _ (e3 _ _ h)) at0) ev_c (rv_eq rfl))) T3) (fun h => nomatch h) fun _ H6 e6 => ?_
        exact quiet _ H6 (nS_same It.natW hy2 rfl).symm ((e3.trans e4).trans e6) rfl rfl
      | glue h g =>
        obtain ⟨ga, rfl, hga⟩ := g
        refine q_when (et_is (et_test (ev_op (ev_ixT (ev_var rfl) ev_c h at0) ev_c (rv_eq rfl))) T1) (fun h => nomatch h) fun _ H3 e3 => ?_
        refine q_when (et_is (et_test (ev_op (ev_ixT (ev_var rfl) ev_c (e3 _ _ h) at0) ev_c (rv_eq rfl))) T2) (fun h => nomatch h) fun _ H4 e4 => ?_
        refine s_when (et_is (et_test (ev_op (ev_ixT (ev_var rfl) ev_c (e4 _ _ (e3 _ _ h)) at0) ev_c (rv_eq rfl))) T3) (fun _ H5 e5 => ?_) fun h => nomatch h
        have h5 := e5 _ _ (e4 _ _ (e3 _ _ h))
        have g5 := e5 _ _ (e4 _ _ (e3 _ _ hga))
        refine q_par (v := .int (nS It.natW sg (i + 1))) (w := .int (nS It.shr sg (i + 1))) (ea_cons (ev_is (ev_op (ev_var rfl) (ev_ixT (ev_ixT (ev_var rfl) ev_c h5 at1) ev_c g5 at0) rv_I0) (by rw [nS_succ _ hy2]; rfl)) (ea_cons (ev_is (ev_op (ev_var rfl) (ev_ixT (ev_ixT (ev_var rfl) ev_c h5 at1) ev_c g5 at3) rv_I0) (by rw [nS_succ _ hy2]; rfl)) ea_nil)) fun H6 e6 => ?_
        have h6 := e6 _ _ h5
        have g6 := e6 _ _ g5
        obtain ⟨j, c, rfl, hj, hc, hset⟩ := sS_glue u.room hy2 hyb.2.2.1
        have e7 := ((e3.trans e4).trans e5).trans e6
        refine s_setL (xs := sS u.room sg i) (j := j) (e7 _ _ hlH) (ev_op (ev_ixL (ev_var rfl) (ev_ixT (ev_ixT (ev_var rfl) ev_c h6 at1) ev_c g6 at2) (e7 _ _ hlH) (atI_nat hc)) (ev_ixT (ev_ixT (ev_var rfl) ev_c h6 at1) ev_c g6 at1) rv_I0) (ev_var rfl) (ev_ixT (ev_ixT (ev_var rfl) ev_c h6 at1) ev_c g6 at2) hj fun H8 e8 => ?_
        rw [hset]
        exact fin _ _ _ _ rfl rfl (Ex.mut ((eH.trans e7).trans e8) hl0) upd_same (by rw [upd_ne bl]; exact e8 _ _ (e7 _ _ hbH))
    · rintro b σ' H' ⟨⟨o, rfl⟩, eH, hlH, bl, hbH⟩
      rw [hsegl] at hlH
      unfold sS at hlH
      rw [nS_all, nS_all, nS_all, nS_all, ← estr, ← estr, ← estr, ← estr] at hlH
      rw [hsegl, nS_all, nS_all, ← eshr]
      clear hbH bl
      obtain ⟨z, hz, hiz⟩ := plain_at hi hel
      refine q_asg (v := .int ((sg.map It.natW).sum + (if p = -1 then 0 else (at_ r p.toNat).behind))) (ev_op (ev_var rfl) ?_ rv_I0) fun H3 e3 => ?_
      · by_cases h0 : p = -1
        · rw [if_pos h0]
          exact ev_if (b := false) (et_is (et_and (a := false) (b := false) (et_is (et_test (ev_op (ev_var rfl) ev_c rv_I0)) (decide_eq_false (by omega))) fun h => nomatch h) rfl) (fun h => nomatch h) fun _ => ev_c
        · rw [if_neg h0]
          have hp2 : 0 ≤ p ∧ p < (r.length : Int) - 1 := by
            rcases hp with h | h
            · exact absurd h h0
            · exact h
          obtain ⟨y, hy, hiy⟩ := plain_at hi (i := p.toNat) (by omega)
          have hya : atI ws p = some y := at_of (j := p.toNat) (by omega) hy
          have hiy := hiy.mono gTup_mono eH
          generalize at_ r p.toNat = it at hiy
          have hh : Ev (tOp (rIxL K) (tVar 0) (tVar 2)) _ H' y := ev_ixL (σ := [some (.ref a), some (.ref d), some (.int p), some (.int (e : Int)), some (.int n), some (.int (startOf r p : Int)), some (.int (sg.map It.natW).sum), some (.ref l), some (.int (shrOf r p e)), o, none, none, none, none, none, none, none, none, none]) (ev_var (i := 0) rfl) (ev_var (i := 2) rfl) (eH _ _ ha) hya
          refine ev_if (b := it.isPart) (et_is (et_and (a := true) (et_is (et_test (ev_op (ev_var rfl) ev_c rv_I0)) (decide_eq_true hp2.1)) fun _ => et_tag hh hiy (tag_part it)) (Bool.true_and _)) (fun hb => ?_) fun hb => ?_
          · cases hiy with
            | part q => exact ev_ixT hh ev_c q at2
            | box q => cases hb
            | glue q g => cases hb
            | pen q => cases hb
          · cases it with
            | part a b c => cases hb
            | box q => exact ev_c
            | glue n s o k => exact ev_c
            | pen q => exact ev_c
      have eH3 := eH.trans e3
      have hl3 := e3 _ _ hlH
      refine q_asg (v := .int (natOf r p e)) (ev_is (ev_op (ev_var rfl) (ev_ahead (ev_ixL (ev_var rfl) (ev_var rfl) (eH3 _ _ ha) (atI_nat hz)) (hiz.mono gTup_mono eH3)) rv_I0) (by rw [enat, Int.add_assoc])) fun H4 e4 => ?_
      have eH4 := eH3.trans e4
      obtain ⟨wa, hrw, hw⟩ := hrd.wid
      have hmin : (if ((u.ws.map V.int).length : Int) < n then ((u.ws.map V.int).length : Int) else n) - 1 = (((min n (u.ws.length : Int) - 1).toNat : Nat) : Int) := by
        rw [List.length_map]
        have := hn.1
        have := hbd.wl
        split <;> omega
      have hwat : atI (u.ws.map V.int) ((if ((u.ws.map V.int).length : Int) < n then ((u.ws.map V.int).length : Int) else n) - 1) = some (.int (widthOf u n)) := by
        refine at_of hmin ?_
        have := hbd.wl
        have hlt : (min n (u.ws.length : Int) - 1).toNat < u.ws.length := by omega
        unfold widthOf
        rw [List.getElem?_map, List.getD_eq_getElem?_getD, List.getElem?_eq_getElem hlt]
        rfl
      have hwd : ∀ {H5 : Hp} (σ : L2.St), Ex H H5 → σ[1]? = some (some (.ref d)) → Ev (tDGet (tVar 1) (tC (.str "widths"))) σ H5 (.ref wa) := fun σ e5 hs => ev_dget (k := .inr "widths") (ev_var hs) ev_c (e5 _ _ hd) hrw
      refine q_asg (v := .int (widthOf u n)) (ev_ixT (hwd _ eH4 rfl) (ev_op (ev_min2 (ev_var rfl) (ev_lenS (hwd _ eH4 rfl) (.inr (st_of (eH4 _ _ hw))))) ev_c rv_I0) (eH4 _ _ hw) hwat) fun H5 e5 => ?_
      refine q_par (v := .int (restOf r u p e n)) (w := .int 0) (ea_cons (ev_op (ev_var rfl) (ev_var rfl) rv_I0) (ea_cons ev_c ea_nil)) fun H6 e6 => ?_
      have eH6 := (eH4.trans e5).trans e6
      have hl6 := e6 _ _ (e5 _ _ (e4 _ _ hl3))
      have shb : 0 ≤ shrOf r p e ∧ shrOf r p e ≤ 600 := hbd.shr _ _
      have st0 : 0 ≤ strOf r 0 p e ∧ strOf r 0 p e ≤ 600 := hbd.str 0 _ _
      have hrb := hbd.rest p e n
      have hroom := hbd.room
      refine q_ifM (b := decide (0 ≤ restOf r u p e n)) (fun σ' H' => ∃ o13, σ' = [some (.ref a), some (.ref d), some (.int p), some (.int (e : Int)), some (.int n), some (.int (startOf r p : Int)), some (.int (natOf r p e)), some (.ref l), some (.int (shrOf r p e)), o, some (.int (widthOf u n)), some (.int (restOf r u p e n)), some (.int (fullOf r u p e n)), o13, some (.int (badOf r u p e n)), none, none, none, none] ∧ Ex H H' ∧ H' l = some (.lst [.int (u.room + strOf r 0 p e), .int (strOf r 1 p e), .int (strOf r 2 p e), .int (strOf r 3 p e)])) (et_test (ev_op (ev_var rfl) ev_c rv_I0)) (fun hb H7 e7 D' kD => ?_) (fun hb H7 e7 D' kD => ?_) ?_
      · have hb := of_decide_eq_true hb
        obtain ⟨f0, b0⟩ := bad_pos hbd hb
        have hl7 := e7 _ _ hl6
        refine q_asg (v := .int ([strOf r 1 p e, strOf r 2 p e, strOf r 3 p e] : List Int).sum) (ev_sumR (ns := [strOf r 1 p e, strOf r 2 p e, strOf r 3 p e]) (el_er (el_sl (ev_var rfl) (eo_some ev_c) eo_none (sq_of hl7)))) fun H8 e8 => ?_
        refine s_asg (v := .int (badOf r u p e n)) (ev_if (et_test (ev_op (ev_var rfl) ev_c rv_I0)) (fun hb2 => ev_is ev_c ?_) fun hb2 => ev_calV (ea_cons (ev_var rfl) (ea_cons (ev_ixL (ev_var rfl) ev_c (e8 _ _ hl7) at0) ea_nil)) fun H9 e9 => ⟨_, _, rfl, hb, by omega, by omega, by omega, ?_⟩) fun H9 e9 => kD _ _ ⟨some (.int ([strOf r 1 p e, strOf r 2 p e, strOf r 3 p e] : List Int).sum), by rw [f0]; rfl, ((eH6.trans e7).trans e8).trans e9, e9 _ _ (e8 _ _ hl7)⟩
        · rw [b0, if_pos (of_decide_eq_true hb2)]
        · rw [b0, if_neg (of_decide_eq_false hb2)]
      · have hb := of_decide_eq_false hb
        refine s_if (b := decide (0 - restOf r u p e n ≤ shrOf r p e)) (et_test (ev_op (ev_op ev_c (ev_var rfl) rv_I0) (ev_var rfl) rv_I0)) (fun hb2 H8 e8 => ?_) fun hb2 H8 e8 => ?_
        · have hb2 := of_decide_eq_true hb2
          obtain ⟨f0, b0⟩ := bad_neg (by omega) hb2
          exact s_asg (v := .int (badOf r u p e n)) (ev_calV (ea_cons (ev_op ev_c (ev_var rfl) rv_I0) (ea_cons (ev_var rfl) ea_nil)) fun H9 e9 => ⟨_, _, rfl, by omega, by omega, by omega, by omega, by rw [b0]⟩) fun H9 e9 => kD _ _ ⟨none, by rw [f0]; rfl, ((eH6.trans e7).trans e8).trans e9, e9 _ _ (e8 _ _ (e7 _ _ hl6))⟩
        · have hb2 := of_decide_eq_false hb2
          obtain ⟨f0, b0⟩ := bad_full hb2
          exact s_par (v := .int 10000) (w := .int (0 - restOf r u p e n - shrOf r p e)) (ea_cons ev_c (ea_cons (ev_op (ev_op ev_c (ev_var rfl) rv_I0) (ev_var rfl) rv_I0) ea_nil)) fun H9 e9 => kD _ _ ⟨none, by rw [f0, b0]; rfl, ((eH6.trans e7).trans e8).trans e9, e9 _ _ (e8 _ _ (e7 _ _ hl6))⟩
      rintro σ7 H7 ⟨o13, rfl, e7, hl7⟩
      refine q_asg (v := .int (clsOf r u p e n)) (ev_ifI (et_test (ev_op (ev_var rfl) ev_c rv_I0)) (fun _ => ev_c) fun _ => ev_ifI (et_test (ev_op (ev_var rfl) ev_c rv_I0)) (fun _ => ev_c) fun _ => ev_ifI (et_test (ev_op (ev_var rfl) ev_c rv_I0)) (fun _ => ev_c) fun _ => ev_c) fun H8 e8 => ?_
      have e8 := e7.trans e8
      refine q_asg (v := .bl (wrongOf r u p e n)) (ev_orV (ev_op (ev_var rfl) ev_c rv_I0) fun _ => ev_op (ev_var rfl) (ev_dget (k := .inr "tolerance") (ev_var rfl) ev_c (e8 _ _ hd) hrd.tol) rv_I0) fun H9 e9 => ?_
      have e9 := e8.trans e9
      have hl9 := ‹Ex H8 H9› _ _ (‹Ex H7 H8› _ _ hl7)
      have hiz9 := hiz.mono gTup_mono e9
      have az9 : Ev (tOp (rIxL K) (tVar 0) (tVar 3)) _ H9 z := ev_ixL (σ := [some (.ref a), some (.ref d), some (.int p), some (.int (e : Int)), some (.int n), some (.int (startOf r p : Int)), some (.int (natOf r p e)), some (.ref l), some (.int (shrOf r p e)), o, some (.int (widthOf u n)), some (.int (restOf r u p e n)), some (.int (fullOf r u p e n)), o13, some (.int (badOf r u p e n)), some (.int (clsOf r u p e n)), some (.bl (wrongOf r u p e n)), none, none]) (ev_var (i := 0) rfl) (ev_var (i := 3) rfl) (e9 _ _ ha) (atI_nat hz)
      refine q_asg (v := .int (if (at_ r e).isPart = true then u.hyp else 0)) (ev_ifI (et_is (et_tag az9 hiz9 (tag_part _)) (by cases (at_ r e).isPart <;> rfl)) (fun _ => ev_dget (k := .inr "hyphen") (ev_var rfl) ev_c (e9 _ _ hd) hrd.hyp) fun _ => ev_c) fun H10 e10 => ?_
      have e10' := e9.trans e10
      have hiz10 := hiz.mono gTup_mono e10'
      have az10 : Ev (tOp (rIxL K) (tVar 0) (tVar 3)) _ H10 z := ev_ixL (σ := [some (.ref a), some (.ref d), some (.int p), some (.int (e : Int)), some (.int n), some (.int (startOf r p : Int)), some (.int (natOf r p e)), some (.ref l), some (.int (shrOf r p e)), o, some (.int (widthOf u n)), some (.int (restOf r u p e n)), some (.int (fullOf r u p e n)), o13, some (.int (badOf r u p e n)), some (.int (clsOf r u p e n)), some (.bl (wrongOf r u p e n)), some (.int (if (at_ r e).isPart = true then u.hyp else 0)), none]) (ev_var (i := 0) rfl) (ev_var (i := 3) rfl) (e10' _ _ ha) (atI_nat hz)
      have hpb : (at_ r e).Bd := hbd.at_ e
      have epen : ∀ q, at_ r e = .pen q → penOf r u e = if q = -10000 then 0 else q := fun q h => by
        unfold penOf
        rw [h]
      have enop : (at_ r e).isPen = false → penOf r u e = if (at_ r e).isPart = true then u.hyp else 0 := fun h => by
        unfold penOf
        cases hq : at_ r e with
        | pen q => rw [hq] at h; cases h
        | box w => rfl
        | glue n s o k => rfl
        | part a b c => rfl
      refine q_ifAsg (v := .int (penOf r u e)) (b := match at_ r e with | .pen q => decide (-10000 < q) | _ => false) ?_ (fun hb => ?_) (fun hb => ?_) fun H11 e11 => ?_
      · have hh := et_and (b := match at_ r e with | .pen q => decide (-10000 < q) | _ => false) (et_tag (K := K) az10 hiz10 (tag_pen (at_ r e))) (u := tTest (tOp (rI0 fun i j => .bl (decide (j < i))) (tOp (rIxT K) (tOp (rIxL K) (tVar 0) (tVar 3)) (tC (.int 1))) (tUn (rU fun i => .int (-i)) (tC (.int 10000))))) fun hp => ?_
        · refine et_is hh ?_
          cases at_ r e <;> first | rfl | exact Bool.true_and _
        · cases hq : at_ r e with
          | pen q =>
            rw [hq] at hiz10
            cases hiz10 with
            | pen hz' => exact et_test (ev_op (ev_ixT az10 ev_c hz' at1) (ev_un ev_c ru_neg) rv_I0)
          | box w => rw [hq] at hp; cases hp
          | glue n s o k => rw [hq] at hp; cases hp
          | part a b c => rw [hq] at hp; cases hp
      · cases hq : at_ r e with
        | pen q =>
          rw [hq] at hb hiz10
          have hb := of_decide_eq_true hb
          rw [epen q hq, if_neg (show ¬ q = -10000 by omega)]
          cases hiz10 with
          | pen hz' => exact ev_ixT az10 ev_c hz' at1
        | box w => rw [hq] at hb; cases hb
        | glue n s o k => rw [hq] at hb; cases hb
        | part a b c => rw [hq] at hb; cases hb
      · have : penOf r u e = if (at_ r e).isPart = true then u.hyp else 0 := by
          cases hq : at_ r e with
          | pen q =>
            rw [hq] at hb hpb
            have hb := of_decide_eq_false hb
            have := hpb.1
            rw [epen q hq, if_pos (show q = -10000 by omega)]
            rfl
          | box w => rw [← hq]; exact enop (by rw [hq]; rfl)
          | glue n s o k => rw [← hq]; exact enop (by rw [hq]; rfl)
          | part a b c => rw [← hq]; exact enop (by rw [hq]; rfl)
        rw [this]
        rfl
      have e11' := e10'.trans e11
      have hl11 := e11 _ _ (e10 _ _ hl9)
      refine q_disp (ks := [.inr "start", .inr "natural", .inr "width", .inr "rest", .inr "stretches"]) (R := fun vs H => ∃ v, vs = [.int (startOf r p : Int), .int (natOf r p e), .int (widthOf u n), .int (restOf r u p e n), v]) (fun H1 f1 => evps_ev ev_c (ev_var rfl) fun H2 f2 => evps_ev ev_c (ev_var rfl) fun H3 f3 => evps_ev ev_c (ev_var rfl) fun H4 f4 => evps_ev ev_c (ev_var rfl) fun H5 f5 => ⟨ev_c, _, er_tupOf (ev_var rfl) (((((f1.trans f2).trans f3).trans f4).trans f5) _ _ hl11), fun v H6 _ _ H7 _ => ⟨v, rfl⟩⟩) (by show 5 ≤ 15; decide) fun q vs H12 hq e12 hvs H13 hH13 e13 => ?_
      obtain ⟨v5, rfl⟩ := hvs
      have hq13 : H13 q = some (.dK (mergeK [] (List.zip [.inr "start", .inr "natural", .inr "width", .inr "rest", .inr "stretches"] [.int (startOf r p : Int), .int (natOf r p e), .int (widthOf u n), .int (restOf r u p e n), v5]))) := by rw [hH13, upd_same]
      have q0 := fresh_back e11' hq
      have e13' := e11'.trans e13
      clear hH13
      refine q_upd (ks := [.inr "shrink", .inr "badness", .inr "kind"]) (vs := [.int (shrOf r p e), .int (badOf r u p e n), .int (clsOf r u p e n)]) (ev_var rfl) hq13 (fun H1 f1 => evps_ev ev_c (ev_var rfl) fun H2 f2 => evps_ev ev_c (ev_var rfl) fun H3 f3 => evps_ev ev_c (ev_var rfl) fun H4 f4 => fun H5 _ => rfl) (by show 3 ≤ 15; decide) (by
        refine Nat.le_trans (length_mergeK _ _) ?_
        show 0 + 5 ≤ 1000
        decide) (by show 3 ≤ 15; decide) fun H14 e14 hq14 => ?_
      have e14' := e14 H q0 e13'
      refine q_upd (ks := [.inr "full", .inr "wrong", .inr "penalty"]) (vs := [.int (fullOf r u p e n), .bl (wrongOf r u p e n), .int (penOf r u e)]) (ev_var rfl) hq14 (fun H1 f1 => evps_ev ev_c (ev_var rfl) fun H2 f2 => evps_ev ev_c (ev_var rfl) fun H3 f3 => evps_ev ev_c (ev_var rfl) fun H4 f4 => fun H5 _ => rfl) (by show 3 ≤ 15; decide) (by
        refine Nat.le_trans (length_mergeK _ _) ?_
        have h1 : (mergeK ([] : List (Key × V)) (List.zip [.inr "start", .inr "natural", .inr "width", .inr "rest", .inr "stretches"] [.int (startOf r p : Int), .int (natOf r p e), .int (widthOf u n), .int (restOf r u p e n), v5])).length ≤ 0 + 5 := length_mergeK _ _
        have h2 : (mergeK ([] : List (Key × V)) (List.zip [.inr "shrink", .inr "badness", .inr "kind"] [.int (shrOf r p e), .int (badOf r u p e n), .int (clsOf r u p e n)])).length ≤ 0 + 3 := length_mergeK _ _
        omega) (by show 3 ≤ 15; decide) fun H15 e15 hq15 => ?_
      have e15' := e15 H q0 e14'
      exact s_ret (ev_var rfl) fun H16 e16 => k _ H16 (e15'.trans e16) ⟨q, told3 _ _ _ _ v5 _ _ _ _ _ _, rfl, e16 _ _ hq15, told3_bad .., told3_kind .., told3_full .., told3_wrong .., told3_pen ..⟩
end
end K51
set_option Elab.async false
set_option linter.all false
set_option maxRecDepth 100000
set_option maxHeartbeats 4000000
namespace K51
open PySem PySem.Spec PyProof.Rows L2 Evl LamX
theorem er_tupR {σ : L2.St} {H : Hp} {ta : TA} {R : List V → Hp → Prop} (h : EvAR ta σ H R) (hm : ∀ vs H1 H2, Ex H1 H2 → R vs H1 → vs.length ≤ 100000 ∧ R vs H2) : EvR (tTup ta) σ H fun v H' => ∃ vs, TupAt H' v vs ∧ R vs H' := fun H1 e Q q =>
  h H1 e _ fun vs H2 e2 r => ⟨sz_of (hm vs H2 H2 (Ex.refl _) r).1, fun p hp => q _ _ (e2.trans (Ex.new hp)) ⟨vs, ⟨p, rfl, upd_same⟩, (hm vs H2 _ (Ex.new hp) r).2⟩⟩
theorem ev_tag {K : PySem.W.Frag} {σ : L2.St} {H : Hp} {te : TE} {x : Str} {v : V} {it : It} {b : Bool} (h : Ev te σ H v) (hi : ItAt GTup H v it) (hb : decide (V.str it.tag = V.str x) = b) : Ev (tOp rEq (tOp (rIxT K) te (tC (.int 0))) (tC (.str x))) σ H (.bl b) := by
  obtain ⟨a, xs, rfl, ha⟩ := hi.tag
  rw [← hb]
  exact ev_op (ev_ixT h ev_c ha at0) ev_c (rv_eq rfl)
section
variable {P : Program} {w : World} {K : PySem.W.Frag} {mg : Str → Option Value} {base : Heap} {cG cR cL aF cC Pt : Addr}
abbrev st_law_line_demerits : Stmt := top 88
def nm_law_line_demerits : List Str := ["_law_plain", "_law_rules", "_law_line", "_law_end", "_law_kind", "_law_is_part", "_law_found", "_law_penalty"]
theorem sc_law_line_demerits : FnScope nm_law_line_demerits ["_law_plain", "_law_rules", "_law_line", "_law_end", "_law_kind", "_law_is_part"] (defScope st_law_line_demerits) := ⟨rfl, rfl, rfl, by decide +kernel, rfl, by decide +kernel, by decide +kernel⟩
def sp_law_line_demerits : Sp := spV fun vs H v => ∃ x y z r u, ∃ (p : Int) (e : Nat) (n c : Int) (h : Bool), vs = [x, y, z, .int (e : Int), .int c, .bl h] ∧ PlainAt H x r ∧ RDictAt H y u ∧ LineAt H z r u p e n ∧ Bd r u ∧ e < r.length ∧ v = .int (demOf r u p e n c h)
theorem ok_law_line_demerits (T : Tx K mg cG cR cL aF) (D : DefAt K mg "_law_line_demerits" "_law_line_demerits" "_law_line_demerits" st_law_line_demerits) : Cal P w K mg base "_law_line_demerits" ["_law_plain", "_law_rules", "_law_line", "_law_end", "_law_kind", "_law_is_part"] 1 sp_law_line_demerits := by
  refine cal_of D sc_law_line_demerits (fun _ _ _ _ _ _ us hl => match us, hl with | [_, _, _, _, _, _], _ => rfl) (fun vs H Q E h => ?_) (fun f cdv A outer s H vs Q E hr h => ?_)
  · obtain ⟨v, ⟨x, y, z, r, u, p, e, n, c, h, rfl, _⟩, _⟩ := h
    rfl
  · obtain ⟨v, ⟨x, y, z, r, u, p, e, n, c, h, rfl, ⟨a, ws, rfl, ha, hi⟩, ⟨d, kvs, rfl, hd, hrd⟩, ⟨g, lvs, rfl, hg, g1, g2, g3, g4, g5⟩, hbd, he, rfl⟩, k⟩ := h
    refine ⟨_, (pss_cons (ps_par (i := 6) (j := 7) (by rfl) sc_law_line_demerits.nd rfl rfl (by decide) rfl rfl (pa_cons (pe_op op_pow (pe_op op_add (pe_dget hr.u1 (pv 1) pe_str (fun _ _ => rfl)) (pe_dget hr.u1 (pv 2) pe_str (fun _ _ => rfl))) pe_int) (pa_cons (pe_dget hr.u1 (pv 2) pe_str (fun _ _ => rfl)) pa_nil)) (by rfl))
      (pss_cons (ps_set (i := 6) sc_law_line_demerits.nd rfl (Or.inl rfl) (pe_op op_add (pv 6) (pe_ifExp (pt_cmpR op_ge (pv 7) pe_int (nomark _)) (pe_op op_pow (pv 7) pe_int) (pe_op op_sub pe_int (pe_op op_pow (pv 7) pe_int)))))
      (pss_cons (ps_set (i := 6) sc_law_line_demerits.nd rfl (Or.inl rfl) (pe_op op_add (pv 6) (pe_ifExp (pt_cmpR op_gt (pe_callB call_abs (by rfl) T.abs_ (by decide +kernel) (pa_cons (pe_op op_sub (pe_dget hr.u1 (pv 2) pe_str (fun _ _ => rfl)) (pv 4)) pa_nil)) pe_int (nomark _)) (pe_dget hr.u1 (pv 1) pe_str (fun _ _ => rfl)) pe_int)))
      (pss_cons (ps_if (pt_val (pv 5)) (pss_cons (ps_set (i := 6) sc_law_line_demerits.nd rfl (Or.inl rfl) (pe_op op_add (pv 6) (pe_ifExp (pt_cmpR op_eq (pe_ix ix_tup (pe_ix ix_list (pv 0) (pv 3) (fun _ _ => rfl)) pe_int (fun _ _ => rfl)) pe_str (nomark _)) (pe_dget hr.u1 (pv 1) pe_str (fun _ _ => rfl)) pe_int)))
      (pss_one (ps_set (i := 6) sc_law_line_demerits.nd rfl (Or.inl rfl) (pe_op op_add (pv 6) (pe_ifExp (pt_cmpR op_eq (pv 3) (pe_op op_sub (pe_callB call_len_seq (by rfl) T.len_ (by decide +kernel) (pa_cons (pv 0) pa_nil)) pe_int) (nomark _)) (pe_dget hr.u1 (pv 1) pe_str (fun _ _ => rfl)) pe_int))))) pss_nil)
      (pss_one (ps_ret (pv 6))))))), ?_⟩
    have hpen := hbd.penOf e
    have hbad := hbd.badOf p e n
    have hline := hbd.line
    have hl := paired_len hi
    obtain ⟨z, hz, hiz⟩ := plain_at hi he
    refine q_par (v := .int ((u.line + badOf r u p e n) ^ 2)) (w := .int (penOf r u e)) (ea_cons (ev_op (ev_op (ev_dget (k := .inr "line") (ev_var rfl) ev_c hd hrd.line) (ev_dget (k := .inr "badness") (ev_var rfl) ev_c hg g1) rv_I0) ev_c (rv_I ⟨by decide, by decide, by omega⟩)) (ea_cons (ev_dget (k := .inr "penalty") (ev_var rfl) ev_c hg g5) ea_nil)) fun H1 e1 => ?_
    refine q_asg (v := .int ((u.line + badOf r u p e n) ^ 2 + (if 0 ≤ penOf r u e then (penOf r u e) ^ 2 else -((penOf r u e) ^ 2)))) (ev_op (ev_var rfl) (ev_ifI (et_test (ev_op (ev_var rfl) ev_c rv_I0)) (fun _ => ev_op (ev_var rfl) ev_c (rv_I ⟨by decide, by decide, by omega⟩)) fun _ => ev_is (ev_op ev_c (ev_op (ev_var rfl) ev_c (rv_I ⟨by decide, by decide, by omega⟩)) rv_I0) ?_) rv_I0) fun H2 e2 => ?_
    · congr 1
      exact Int.zero_sub _
    have f2 := e1.trans e2
    refine q_asg (v := .int ((u.line + badOf r u p e n) ^ 2 + (if 0 ≤ penOf r u e then (penOf r u e) ^ 2 else -((penOf r u e) ^ 2)) + (if 1 < (clsOf r u p e n - c).natAbs then u.unl else 0))) (ev_op (ev_var rfl) (ev_ifI (et_is (et_test (ev_op (ev_abs (ev_op (ev_dget (k := .inr "kind") (ev_var rfl) ev_c (f2 _ _ hg) g2) (ev_var rfl) rv_I0)) ev_c rv_I0)) ?_) (fun _ => ev_dget (k := .inr "unlike") (ev_var rfl) ev_c (f2 _ _ hd) hrd.unl) fun _ => ev_c) rv_I0) fun H3 e3 => ?_
    · rw [Bool.eq_iff_iff, decide_eq_true_iff, decide_eq_true_iff]
      split <;> omega
    have f3 := f2.trans e3
    refine q_when (et_B (ev_var rfl)) (fun hh H4 e4 => ?_) fun hh H4 e4 => ?_
    · have f4 := f3.trans e4
      refine q_asg (v := .int ((u.line + badOf r u p e n) ^ 2 + (if 0 ≤ penOf r u e then (penOf r u e) ^ 2 else -((penOf r u e) ^ 2)) + (if 1 < (clsOf r u p e n - c).natAbs then u.unl else 0) + (if (at_ r e).isPart = true then u.dbl else 0))) (ev_op (ev_var rfl) (ev_ifI (et_is (et_tag (ev_ixL (ev_var rfl) (ev_var rfl) (f4 _ _ ha) (atI_nat hz)) (hiz.mono gTup_mono f4) (tag_part _)) (by cases (at_ r e).isPart <;> rfl)) (fun _ => ev_dget (k := .inr "double") (ev_var rfl) ev_c (f4 _ _ hd) hrd.dbl) fun _ => ev_c) rv_I0) fun H5 e5 => ?_
      have f5 := f4.trans e5
      refine s_asg (v := .int ((u.line + badOf r u p e n) ^ 2 + (if 0 ≤ penOf r u e then (penOf r u e) ^ 2 else -((penOf r u e) ^ 2)) + (if 1 < (clsOf r u p e n - c).natAbs then u.unl else 0) + (if (at_ r e).isPart = true then u.dbl else 0) + (if e + 1 = r.length then u.last else 0))) (ev_op (ev_var rfl) (ev_ifI (et_is (et_test (ev_op (ev_var rfl) (ev_op (ev_lenS (ev_var rfl) (.inl (sq_of (f5 _ _ ha)))) ev_c rv_I0) (rv_eq rfl))) ?_) (fun _ => ev_dget (k := .inr "last") (ev_var rfl) ev_c (f5 _ _ hd) hrd.last) fun _ => ev_c) rv_I0) fun H6 e6 => ?_
      · rw [int_dec, hl, Bool.eq_iff_iff, decide_eq_true_iff, decide_eq_true_iff]
        omega
      refine s_ret (ev_var rfl) fun H7 e7 => kz k ?_ ((f5.trans e6).trans e7)
      unfold demOf
      rw [hh]
      simp only [Bool.true_and, decide_eq_true_eq]
    · refine s_ret (ev_var rfl) fun H7 e7 => kz k ?_ ((f3.trans e4).trans e7)
      unfold demOf
      rw [hh]
      simp only [Bool.false_and, Bool.false_eq_true, if_false, Int.add_zero]
abbrev st_law_step_told : Stmt := top 89
def nm_law_step_told : List Str := ["_law_plain", "_law_rules", "_law_node", "_law_end", "_law_place", "_law_number", "_law_kind", "_law_is_part", "_law_line", "_law_demerits"]
theorem sc_law_step_told : FnScope nm_law_step_told ["_law_plain", "_law_rules", "_law_node", "_law_end"] (defScope st_law_step_told) := ⟨rfl, rfl, rfl, by decide +kernel, rfl, by decide +kernel, by decide +kernel⟩
def sp_law_step_told (aF : Addr) : Sp := spR fun vs H R => ∃ x y nv r u, ∃ (nd : Nd) (e : Nat), vs = [x, y, nv, .int (e : Int)] ∧ PlainAt H x r ∧ RDictAt H y u ∧ Bd r u ∧ TupAt H nv (nodeV nd) ∧ Pl r nd.p ∧ e ∈ nexts r u.hyp nd.p ∧ (0 ≤ nd.n ∧ nd.n ≤ 900) ∧ R = fun v H2 => StepR H2 v (step r u nd e)
theorem ok_law_step_told (T : Tx K mg cG cR cL aF) (D : DefAt K mg "_law_step_told" "_law_step_told" "_law_step_told" st_law_step_told) (c_law_line_told : Cal P w K mg base "_law_line_told" ["_law_plain", "_law_rules", "_law_place", "_law_end", "_law_number"] 2 sp_law_line_told)
    (c_law_line_demerits : Cal P w K mg base "_law_line_demerits" ["_law_plain", "_law_rules", "_law_line", "_law_end", "_law_kind", "_law_is_part"] 1 sp_law_line_demerits) : Cal P w K mg base "_law_step_told" ["_law_plain", "_law_rules", "_law_node", "_law_end"] 3 (sp_law_step_told aF) := by
  refine cal_of D sc_law_step_told (fun _ _ _ _ _ _ us hl => match us, hl with | [_, _, _, _], _ => rfl) (fun vs H Q E h => ?_) (fun f cdv A outer s H vs Q E hr h => ?_)
  · obtain ⟨R, ⟨x, y, nv, r, u, nd, e, rfl, _⟩, _⟩ := h
    rfl
  · obtain ⟨R, ⟨x, y, nv, r, u, nd, e, rfl, hx, hy, hbd, ⟨na, rfl, hna⟩, hp, he, hn, rfl⟩, k⟩ := h
    refine ⟨_, (pss_cons (ps_asg (pv 2) (pg_tup rfl (pgs_cons (pg_name (i := 4) sc_law_step_told.nd rfl (Or.inl rfl)) (pgs_cons (pg_name (i := 5) sc_law_step_told.nd rfl (Or.inl rfl)) (pgs_cons (pg_name (i := 6) sc_law_step_told.nd rfl (Or.inl rfl)) (pgs_cons (pg_name (i := 7) sc_law_step_told.nd rfl (Or.inl rfl)) pgs_nil))))))
      (pss_cons (ps_set (i := 8) sc_law_step_told.nd rfl (Or.inl rfl) (pe_cal c_law_line_told (hr.mono (by decide)) (pa_cons (pv 0) (pa_cons (pv 1) (pa_cons (pv 4) (pa_cons (pv 3) (pa_cons (pe_op op_add (pv 5) pe_int) pa_nil)))))))
      (pss_cons (ps_set (i := 9) sc_law_step_told.nd rfl (Or.inl rfl) (pe_cal c_law_line_demerits (hr.mono (by decide)) (pa_cons (pv 0) (pa_cons (pv 1) (pa_cons (pv 8) (pa_cons (pv 3) (pa_cons (pv 6) (pa_cons (pv 7) pa_nil))))))))
      (pss_one (ps_ret (pe_tup (pa_cons (pe_tup (pa_cons (pv 3) (pa_cons (pe_op op_add (pv 5) pe_int) (pa_cons (pe_dget hr.u1 (pv 8) pe_str (fun _ _ => rfl)) (pa_cons (pe_cmpR op_eq (pe_ix ix_tup (pe_ix ix_list (pv 0) (pv 3) (fun _ _ => rfl)) pe_int (fun _ _ => rfl)) pe_str (nomark _)) pa_nil))))) (pa_cons (pe_tup (pa_cons (pe_callTy call_int1 (by rfl) T.int_ (by decide +kernel) (pa_cons (pe_dget hr.u1 (pv 8) pe_str (fun _ _ => rfl)) pa_nil)) (pa_cons (pe_dget hr.u1 (pv 8) pe_str (fun _ _ => rfl)) (pa_cons (pv 9) pa_nil)))) pa_nil)))))))), ?_⟩
    refine ⟨.ref na, rfl, na, _, rfl, st_of hna, rfl, _, _, rfl, _, _, rfl, _, _, rfl, _, _, rfl, rfl, ?_⟩
    refine q_asgR (R := fun v H' => LineAt H' v r u nd.p e (nd.n + 1)) (ev_calR (ea_cons (ev_var rfl) (ea_cons (ev_var rfl) (ea_cons (ev_var rfl) (ea_cons (ev_var rfl) (ea_cons (ev_op (ev_var rfl) ev_c rv_I0) ea_nil))))) fun H1 e1 => ⟨_, _, r, u, nd.p, e, nd.n + 1, rfl, hx.mono e1, hy.mono e1, hbd, hp, he, by omega, rfl⟩) fun lv H1 e1 hlv => ?_
    obtain ⟨hel, _, hse⟩ := nexts_mem he
    refine q_asg (v := .int (demOf r u nd.p e (nd.n + 1) nd.c nd.h)) (ev_calV (ea_cons (ev_var rfl) (ea_cons (ev_var rfl) (ea_cons (ev_var rfl) (ea_cons (ev_var rfl) (ea_cons (ev_var rfl) (ea_cons (ev_var rfl) ea_nil)))))) fun H2 e2 => ⟨_, _, _, r, u, nd.p, e, nd.n + 1, nd.c, nd.h, rfl, hx.mono (e1.trans e2), hy.mono (e1.trans e2), hlv.mono e2, hbd, hel, rfl⟩) fun H2 e2 => ?_
    obtain ⟨g, lvs, rfl, hg, g1, g2, g3, g4, g5⟩ := hlv.mono e2
    have f2 := e1.trans e2
    obtain ⟨a, ws, rfl, ha, hi⟩ := hx
    obtain ⟨z, hz, hiz⟩ := plain_at hi hel
    refine s_retR (er_tupR (R := fun vs H' => ∃ nv cv, vs = [nv, cv] ∧ TupAt H' nv (nodeV (step r u nd e).1) ∧ TupAt H' cv (costV (step r u nd e).2)) (ear_cons (R1 := fun v H' => TupAt H' v (nodeV (step r u nd e).1)) (er_tup (ea_cons (ev_var rfl) (ea_cons (ev_op (ev_var rfl) ev_c rv_I0) (ea_cons (ev_dget (k := .inr "kind") (ev_var rfl) ev_c hg g2) (ea_cons (ev_tag (ev_ixL (ev_var rfl) (ev_var rfl) (f2 _ _ ha) (atI_nat hz)) (hiz.mono gTup_mono f2) (tag_part _)) ea_nil)))) (by show 4 ≤ 100000; decide)) fun nv H3 e3 hnv =>
      ear_cons (R1 := fun v H' => TupAt H' v (costV (step r u nd e).2)) (er_tup (ea_cons (ev_intB (ev_dget (k := .inr "wrong") (ev_var rfl) ev_c (e3 _ _ hg) g4)) (ea_cons (ev_dget (k := .inr "full") (ev_var rfl) ev_c (e3 _ _ hg) g3) (ea_cons (ev_var rfl) ea_nil))) (by show 3 ≤ 100000; decide)) fun cv H4 e4 hcv => ear_nil fun H5 e5 => ⟨nv, cv, rfl, hnv.mono (e4.trans e5), hcv.mono e5⟩) fun vs H1 H2 e ⟨nv, cv, h1, h2, h3⟩ => ⟨by rw [h1]; show 2 ≤ 100000; decide, nv, cv, h1, h2.mono e, h3.mono e⟩) fun v H3 e3 ⟨vs, h1, nv, cv, h2, h3, h4⟩ => k v H3 (f2.trans e3) ⟨nv, cv, by rw [← h2]; exact h1, h3, h4⟩
end
end K51
set_option maxRecDepth 100000
set_option linter.all false
set_option maxHeartbeats 1000000
/-! The law's search by force, as plain lists. -/
namespace K51
abbrev Wy := List Int × Nd × Cost
def wone (r : Row) (u : Ru) (x : Wy) (e : Nat) : Wy := (x.1 ++ [(e : Int)], (step r u x.2.1 e).1, cadd x.2.2 (step r u x.2.1 e).2)
def wext (r : Row) (u : Ru) (x : Wy) : List Wy := (nexts r u.hyp x.2.1.p).map (wone r u x)
def wEnd (r : Row) (y : Wy) : Bool := isEnd r y.2.1
def wcut (y : Wy) : List Int × Cost := (y.1, y.2.2)
def wave (r : Row) (u : Ru) : Nat → List Wy
  | 0 => [([], first, zero)]
  | i + 1 => ((wave r u i).flatMap (wext r u)).filter fun y => !wEnd r y
def wfound (r : Row) (u : Ru) : Nat → List (List Int × Cost)
  | 0 => []
  | i + 1 => wfound r u i ++ (((wave r u i).flatMap (wext r u)).filter (wEnd r)).map wcut
def pot (r : Row) (y : Wy) : Nat := 2 ^ (((r.length : Int) - 1 - y.2.1.p).toNat)
theorem pot_pos (r : Row) (y : Wy) : 1 ≤ pot r y := Nat.one_le_two_pow
theorem cutAt_pw {α : Type} {R : α → α → Prop} (f : α → Bool) : ∀ {xs : List α}, xs.Pairwise R → (cutAt f xs).Pairwise R
  | [], h => h
  | x :: xs, h => by
    unfold cutAt
    rw [List.pairwise_cons] at h ⊢
    split
    · exact ⟨fun _ h => (List.not_mem_nil h).elim, .nil⟩
    · exact ⟨fun y hy => h.1 y (cutAt_sub f xs y hy), cutAt_pw f h.2⟩
theorem nexts_pw (r : Row) (hyp p : Int) : (nexts r hyp p).Pairwise (· < ·) := by
  unfold nexts places
  exact cutAt_pw _ (List.Pairwise.filter _ (List.Pairwise.filter _ List.pairwise_lt_range))
theorem pow_sum (L : Nat) : ∀ (l : List Nat) (a : Nat), l.Pairwise (· < ·) → (∀ e ∈ l, a ≤ e ∧ e < L) → a ≤ L → (l.map fun e => 2 ^ (L - 1 - e)).sum + 1 ≤ 2 ^ (L - a)
  | [], a, _, _, _ => by
    show 0 + 1 ≤ _
    have := Nat.one_le_two_pow (n := L - a)
    omega
  | e :: l, a, h, hb, ha => by
    rw [List.pairwise_cons] at h
    obtain ⟨h1, h2⟩ := hb e List.mem_cons_self
    have ih := pow_sum L l (e + 1) h.2 (fun x hx => ⟨h.1 x hx, (hb x (List.mem_cons_of_mem _ hx)).2⟩) h2
    rw [List.map_cons, List.sum_cons]
    have e1 : L - 1 - e = L - (e + 1) := by omega
    have e2 : 2 ^ (L - e) = 2 ^ (L - (e + 1)) + 2 ^ (L - (e + 1)) := by
      have : L - e = (L - (e + 1)) + 1 := by omega
      rw [this, Nat.pow_succ]
      omega
    have e3 : 2 ^ (L - e) ≤ 2 ^ (L - a) := Nat.pow_le_pow_right (by decide) (by omega)
    rw [e1]
    omega
theorem pot_wext {r : Row} {u : Ru} {x : Wy} (h : Pl r x.2.1.p) (h2 : 1 ≤ r.length) : ((wext r u x).map (pot r)).sum ≤ pot r x := by
  have hs := startOf_gt h
  have e1 : (wext r u x).map (pot r) = (nexts r u.hyp x.2.1.p).map fun e => 2 ^ (r.length - 1 - e) := by
    unfold wext
    rw [List.map_map]
    refine List.map_congr_left fun e _ => ?_
    show 2 ^ (((r.length : Int) - 1 - (e : Int)).toNat) = _
    congr 1
    omega
  have hp : 0 ≤ x.2.1.p + 1 ∧ x.2.1.p + 1 ≤ r.length := by
    rcases h with h | h <;> omega
  have := pow_sum r.length (nexts r u.hyp x.2.1.p) (x.2.1.p + 1).toNat (nexts_pw _ _ _) (fun e he => by
    obtain ⟨a, b, c⟩ := nexts_mem he
    omega) (by omega)
  rw [e1]
  have e2 : pot r x = 2 ^ (r.length - (x.2.1.p + 1).toNat) := by
    unfold pot
    congr 1
    omega
  omega
def pots (r : Row) (l : List Wy) : Nat := (l.map (pot r)).sum
theorem pots_app (r : Row) (a b : List Wy) : pots r (a ++ b) = pots r a + pots r b := by
  unfold pots
  rw [List.map_append, List.sum_append]
theorem pots_flat {r : Row} {u : Ru} (h2 : 1 ≤ r.length) : ∀ l : List Wy, (∀ x ∈ l, Pl r x.2.1.p) → pots r (l.flatMap (wext r u)) ≤ pots r l
  | [], _ => Nat.le_refl _
  | x :: l, h => by
    rw [List.flatMap_cons, pots_app]
    have h1 := pot_wext (u := u) (h x List.mem_cons_self) h2
    have ih := pots_flat (u := u) h2 l fun y hy => h y (List.mem_cons_of_mem _ hy)
    show _ ≤ pot r x + pots r l
    exact Nat.add_le_add h1 ih
theorem pots_split (r : Row) (f : Wy → Bool) : ∀ l : List Wy, (l.filter f).length + pots r (l.filter fun y => !f y) ≤ pots r l
  | [] => Nat.le_refl _
  | x :: l => by
    have ih := pots_split r f l
    have hx := pot_pos r x
    have e : pots r (x :: l) = pot r x + pots r l := rfl
    have e2 : pots r (x :: l.filter fun y => !f y) = pot r x + pots r (l.filter fun y => !f y) := rfl
    rw [List.filter_cons, List.filter_cons]
    cases hf : f x with
    | true =>
      rw [if_pos rfl, if_neg (by decide), List.length_cons]
      omega
    | false =>
      rw [if_neg (by decide), if_pos (by decide), e2]
      omega
theorem pots_len (r : Row) : ∀ l : List Wy, l.length ≤ pots r l
  | [] => Nat.le_refl _
  | x :: l => by
    have ih := pots_len r l
    have hx := pot_pos r x
    show l.length + 1 ≤ pot r x + pots r l
    omega
theorem step_mem_outs {r : Row} {u : Ru} {x : Nd} {e : Nat} (h : isEnd r x = false) (he : e ∈ nexts r u.hyp x.p) : step r u x e ∈ outs r u true x := by
  unfold outs
  rw [h, if_neg (by decide), List.mem_filter]
  exact ⟨List.mem_map_of_mem he, rfl⟩
structure WOk (r : Row) (u : Ru) (i : Nat) (x : Wy) : Prop where
  path : Path r u true x.2.1 x.2.2 x.1
  num : x.2.1.n = (i : Int)
  len : x.1.length = i
theorem wone_ok {r : Row} {u : Ru} {i : Nat} {x : Wy} {e : Nat} (h : WOk r u i x) (hn : isEnd r x.2.1 = false) (he : e ∈ nexts r u.hyp x.2.1.p) : WOk r u (i + 1) (wone r u x e) := by
  refine ⟨?_, ?_, ?_⟩
  · exact Path.snoc h.path (step_mem_outs hn he)
  · show x.2.1.n + 1 = _
    rw [h.num]
    rfl
  · show (x.1 ++ [(e : Int)]).length = _
    rw [List.length_append, h.len]
    rfl
theorem pl_of {r : Row} {u : Ru} {i : Nat} {x : Wy} (h : WOk r u i x) (hn : isEnd r x.2.1 = false) : Pl r x.2.1.p := by
  obtain ⟨w, nd, c⟩ := x
  obtain ⟨hp, _, _⟩ := h
  unfold isEnd at hn
  have hn := of_decide_eq_false hn
  dsimp only at hp hn ⊢
  cases hp with
  | nil => exact .inl rfl
  | snoc a b =>
    obtain ⟨_, e, he, hs, _⟩ := outs_mem b
    have h1 : nd.p = (e : Int) := by
      have := congrArg (fun y => y.1.p) hs
      exact this.symm
    have := (nexts_mem he).1
    right
    omega
theorem wave_ok {r : Row} {u : Ru} (h2 : 1 ≤ r.length) : ∀ (i : Nat) (x : Wy), x ∈ wave r u i → WOk r u i x ∧ isEnd r x.2.1 = false
  | 0, x, h => by
    have e : x = ([], first, zero) := List.mem_singleton.mp h
    rw [e]
    refine ⟨⟨.nil, rfl, rfl⟩, ?_⟩
    unfold isEnd first
    exact decide_eq_false (by show ¬ (-1 : Int) = _; omega)
  | i + 1, x, h => by
    unfold wave at h
    rw [List.mem_filter, List.mem_flatMap] at h
    obtain ⟨⟨y, hy, hx⟩, h3⟩ := h
    obtain ⟨h4, h5⟩ := wave_ok h2 i y hy
    unfold wext at hx
    obtain ⟨e, he, rfl⟩ := List.mem_map.mp hx
    refine ⟨wone_ok h4 h5 he, ?_⟩
    unfold wEnd at h3
    simpa using h3
theorem wave_pl {r : Row} {u : Ru} (h2 : 1 ≤ r.length) {i : Nat} {x : Wy} (h : x ∈ wave r u i) : Pl r x.2.1.p := pl_of (wave_ok h2 i x h).1 (wave_ok h2 i x h).2
theorem wcount {r : Row} {u : Ru} (h2 : 1 ≤ r.length) : ∀ i, (wfound r u i).length + pots r (wave r u i) ≤ 2 ^ r.length
  | 0 => by
    show 0 + (2 ^ (((r.length : Int) - 1 - (-1)).toNat) + 0) ≤ _
    rw [show ((r.length : Int) - 1 - (-1)).toNat = r.length by omega]
    omega
  | i + 1 => by
    have ih := wcount (u := u) h2 i
    have h3 := pots_flat (u := u) h2 (wave r u i) fun x hx => wave_pl h2 hx
    have h4 := pots_split r (wEnd r) ((wave r u i).flatMap (wext r u))
    show (wfound r u i ++ _).length + pots r (((wave r u i).flatMap (wext r u)).filter fun y => !wEnd r y) ≤ _
    rw [List.length_append, List.length_map]
    omega
theorem wcount2 {r : Row} {u : Ru} (h2 : 1 ≤ r.length) (i : Nat) : (wfound r u i).length + ((wave r u i).flatMap (wext r u)).length ≤ 2 ^ r.length := by
  have ih := wcount (u := u) h2 i
  have h3 := pots_flat (u := u) h2 (wave r u i) fun x hx => wave_pl h2 hx
  have h4 := pots_len r ((wave r u i).flatMap (wext r u))
  omega
/-! ### found = the paths to the end -/
theorem found_sound {r : Row} {u : Ru} (h2 : 1 ≤ r.length) : ∀ (i : Nat) (w : List Int) (c : Cost), (w, c) ∈ wfound r u i → ∃ x, Path r u true x c w ∧ isEnd r x = true
  | 0, w, c, h => (List.not_mem_nil h).elim
  | i + 1, w, c, h => by
    unfold wfound at h
    rcases List.mem_append.mp h with h | h
    · exact found_sound h2 i w c h
    · obtain ⟨y, hy, e⟩ := List.mem_map.mp h
      rw [List.mem_filter, List.mem_flatMap] at hy
      obtain ⟨⟨x, hx, hxy⟩, he⟩ := hy
      obtain ⟨h4, h5⟩ := wave_ok h2 i x hx
      unfold wext at hxy
      obtain ⟨e', he', rfl⟩ := List.mem_map.mp hxy
      have := (wone_ok h4 h5 he').path
      unfold wcut at e
      cases e
      exact ⟨_, this, he⟩
theorem found_mono {r : Row} {u : Ru} {y : List Int × Cost} {i : Nat} (h : y ∈ wfound r u i) : ∀ k, y ∈ wfound r u (i + k)
  | 0 => h
  | k + 1 => by
    show y ∈ wfound r u (i + k) ++ _
    exact List.mem_append_left _ (found_mono h k)
theorem path_wave {r : Row} {u : Ru} {x : Nd} {c : Cost} {w : List Int} (h : Path r u true x c w) : (isEnd r x = false → (w, x, c) ∈ wave r u w.length) ∧ (isEnd r x = true → w ≠ [] → (w, c) ∈ wfound r u w.length) ∧ (w.length : Int) ≤ x.p + 1 ∧ (Pl r x.p ∨ (w ≠ [] ∧ isEnd r x = true)) := by
  induction h with
  | nil => exact ⟨fun _ => List.mem_singleton.mpr rfl, fun _ h => absurd rfl h, Int.le_refl _, .inl (.inl rfl)⟩
  | @snoc x y c d w hp ho ih =>
    obtain ⟨h1, e, he, hs, _⟩ := outs_mem ho
    have hw := ih.1 h1
    have hmem : (w ++ [y.p], y, cadd c d) ∈ (wave r u w.length).flatMap (wext r u) := by
      rw [List.mem_flatMap]
      refine ⟨_, hw, ?_⟩
      unfold wext
      refine List.mem_map.mpr ⟨e, he, ?_⟩
      unfold wone
      dsimp only
      rw [hs]
      have : y.p = (e : Int) := by
        have := congrArg (fun z => z.1.p) hs
        exact this.symm
      rw [this]
    have hl : (w ++ [y.p]).length = w.length + 1 := by
      rw [List.length_append]
      rfl
    have hpl : Pl r x.p := by
      rcases ih.2.2.2 with h | h
      · exact h
      · rw [h1] at h
        cases h.2
    have hyp : y.p = (e : Int) := by
      have := congrArg (fun z => z.1.p) hs
      exact this.symm
    have hgt := startOf_gt hpl
    obtain ⟨m1, _, m2⟩ := nexts_mem he
    refine ⟨fun hn => ?_, fun hn _ => ?_, ?_, ?_⟩
    · rw [hl]
      show _ ∈ List.filter _ _
      rw [List.mem_filter]
      refine ⟨hmem, ?_⟩
      show (!isEnd r y) = true
      rw [hn]
      rfl
    · rw [hl]
      refine List.mem_append_right _ (List.mem_map.mpr ⟨(w ++ [y.p], y, cadd c d), ?_, rfl⟩)
      rw [List.mem_filter]
      exact ⟨hmem, hn⟩
    · rw [hl, hyp]
      have := ih.2.2.1
      omega
    · cases hn : isEnd r y with
      | true => exact .inr ⟨by simp, rfl⟩
      | false =>
        left
        unfold isEnd at hn
        have hn := of_decide_eq_false hn
        right
        omega
theorem path_first {r : Row} {u : Ru} {wr : Bool} {x : Nd} {c : Cost} {w : List Int} (h : Path r u wr x c w) (hw : w = []) : x = first ∧ c = zero := by
  cases h with
  | nil => exact ⟨rfl, rfl⟩
  | snoc a b => simp at hw
theorem found_all {r : Row} {u : Ru} (h2 : 1 ≤ r.length) {x : Nd} {c : Cost} {w : List Int} (h : Path r u true x c w) (he : isEnd r x = true) : (w, c) ∈ wfound r u r.length := by
  obtain ⟨_, h1, h3, _⟩ := path_wave h
  have hx : x.p = (r.length : Int) - 1 := by
    unfold isEnd at he
    exact of_decide_eq_true he
  have hw : w ≠ [] := by
    intro z
    obtain ⟨hf, _⟩ := path_first h z
    rw [hf] at hx
    have : (-1 : Int) = _ := hx
    omega
  have := found_mono (h1 he hw) (r.length - w.length)
  rw [show w.length + (r.length - w.length) = r.length by omega] at this
  exact this
end K51
set_option Elab.async false
set_option linter.all false
set_option maxRecDepth 100000
set_option maxHeartbeats 4000000
namespace K51
open PySem PySem.Spec PyProof.Rows L2 Evl LamX
section
variable {P : Program} {w : World} {K : PySem.W.Frag} {mg : Str → Option Value} {base : Heap} {cG cR cL aF cC Pt : Addr}
def WayR : Hp → V → List Int × Cost → Prop := fun H v y => ∃ wv cv, TupAt H v [wv, cv] ∧ TupAt H wv (y.1.map V.int) ∧ TupAt H cv (costV y.2)
def RowR : Hp → V → Wy → Prop := fun H v y => ∃ wv nv cv, TupAt H v [wv, nv, cv] ∧ TupAt H wv (y.1.map V.int) ∧ TupAt H nv (nodeV y.2.1) ∧ TupAt H cv (costV y.2.2)
theorem wayR_mono : RMono WayR := fun H H' v y e ⟨wv, cv, h1, h2, h3⟩ => ⟨wv, cv, h1.monoI e, h2.monoI e, h3.monoI e⟩
theorem rowR_mono : RMono RowR := fun H H' v y e ⟨wv, nv, cv, h1, h2, h3, h4⟩ => ⟨wv, nv, cv, h1.monoI e, h2.monoI e, h3.monoI e, h4.monoI e⟩
theorem q_asgG {σ : L2.St} {H : Hp} {D : Ends} {tz : TS} {te : TE} {g : TG} {R : V → Hp → Prop} (h : EvR te σ H R) (k : ∀ v H1, Ex H H1 → R v H1 → g v σ H1 fun σ' H' => tz D σ' H') : tSeq (tAsg te g) tz D σ H := h H (Ex.refl H) _ fun v H1 e r => k v H1 e r
theorem er_catA {σ : L2.St} {H : Hp} {ta tb : TE} {a : Addr} {xs ys : List V} (h : Ev ta σ H (.ref a)) (ha : H a = some (.tup xs)) (h2 : EvR tb σ H fun v H' => TupAt H' v ys) (hy : ys ≠ []) (hz : xs.length + ys.length ≤ 100000) : EvR (tOp (rCatA K) ta tb) σ H fun v H' => TupAt H' v (xs ++ ys) := fun H1 e Q q =>
  h H1 e _ fun H2 e2 => h2 H2 (e.trans e2) _ fun v H3 e3 ⟨b, hv, hb⟩ => ⟨a, b, xs, ys, rfl, hv, st_of (e3 _ _ (e2 _ _ (e _ _ ha))), st_of hb, sz_of hz, fun hx => q _ _ (e2.trans e3) ⟨b, rfl, by rw [hx]; exact hb⟩, fun _ h => absurd h hy, fun _ _ p hp => q _ _ ((e2.trans e3).trans (Ex.new hp)) ⟨p, rfl, upd_same⟩⟩
theorem q_parR {σ : L2.St} {H : Hp} {D : Ends} {tz : TS} {i j : Nat} {ta : TA} {R : List V → Hp → Prop} (h : EvAR ta σ H R) (k : ∀ vs H1, Ex H H1 → R vs H1 → ∃ v w, vs = [v, w] ∧ tz D ((σ.set i (some v)).set j (some w)) H1) : tSeq (tPar i j ta) tz D σ H := h H (Ex.refl H) _ k
theorem er_lstR {σ : L2.St} {H : Hp} {ta : TA} {R : List V → Hp → Prop} (h : EvAR ta σ H R) (hm : ∀ vs H1 H2, Ex H1 H2 → R vs H1 → vs.length ≤ 100000 ∧ R vs H2) : EvR (tLst ta) σ H fun v H' => ∃ vs, LstAt H' v vs ∧ R vs H' := fun H1 e Q q =>
  h H1 e _ fun vs H2 e2 r => ⟨sz_of (hm vs H2 H2 (Ex.refl _) r).1, fun p hp => q _ _ (e2.trans (Ex.new hp)) ⟨vs, ⟨p, rfl, upd_same⟩, (hm vs H2 _ (Ex.new hp) r).2⟩⟩
theorem er_listOf {σ : L2.St} {H : Hp} {te : TE} {a : Addr} {xs : List V} (h : Ev te σ H (.ref a)) (ha : H a = some (.lst xs)) : EvR (tCB (fun xs H Q => ∃ p ys, xs = [.ref p] ∧ (SqL K H p ys ∨ SqT K H p ys) ∧ ∀ l, H l = none → Q (.ref l) (upd H l (.lst ys))) (tCons te tNil)) σ H fun v H' => ∃ b, v = .ref b ∧ H b = none ∧ H' b = some (.lst xs) := fun H1 e Q q =>
  h H1 e _ fun H2 e2 => ⟨a, xs, rfl, .inl (sq_of (e2 _ _ (e _ _ ha))), fun l hl => q _ _ (e2.trans (Ex.new hl)) ⟨l, rfl, fresh_back (e.trans e2) hl, upd_same⟩⟩
theorem paired_add {α : Type} {F : V → α → Prop} : ∀ {xs : List V} {ys : List α} {x : V} {y : α}, Paired F xs ys → F x y → Paired F (xs ++ [x]) (ys ++ [y])
  | _, _, _, _, .nil, h => .cons h .nil
  | _, _, _, _, .cons a t, h => .cons a (paired_add t h)
structure AW (r : Row) (u : Ru) (H H' : Hp) (b f l : Addr) (bs facc lacc : List V) (i : Nat) (S : List Wy) : Prop where
  ex : Ex H H'
  hf : H' f = some (.lst facc)
  pf : Paired (WayR H') facc (wfound r u i ++ (S.filter (wEnd r)).map wcut)
  hl : H' l = some (.lst lacc)
  pl : Paired (RowR H') lacc (S.filter fun y => !wEnd r y)
  hb : H' b = some (.lst bs)
  pb : Paired (RowR H') bs (wave r u i)
theorem flat_take {α β : Type} (f : α → List β) {l : List α} {j : Nat} {x : α} (h : l[j]? = some x) : (l.take (j + 1)).flatMap f = (l.take j).flatMap f ++ f x := by
  rw [List.take_succ, h, List.flatMap_append]
  congr 1
  exact List.append_nil _
theorem flat_len {α β : Type} (f : α → List β) {l : List α} {j : Nat} {x : α} (h : l[j]? = some x) : ((l.take j).flatMap f).length + (f x).length ≤ (l.flatMap f).length := by
  rw [← List.length_append, ← flat_take f h]
  conv => rhs; rw [← List.take_append_drop (j + 1) l, List.flatMap_append, List.length_append]
  exact Nat.le_add_right _ _
section
variable {r : Row} {u : Ru} {H H' : Hp} {b f l : Addr} {bs facc lacc : List V} {i : Nat} {S : List Wy}
theorem AW.mono (h : AW r u H H' b f l bs facc lacc i S) {H2 : Hp} (e : Ex H' H2) : AW r u H H2 b f l bs facc lacc i S :=
  ⟨h.ex.trans e, e _ _ h.hf, Paired.mapP h.pf fun _ _ q => wayR_mono _ _ _ _ (.of e) q, e _ _ h.hl, Paired.mapP h.pl fun _ _ q => rowR_mono _ _ _ _ (.of e) q, e _ _ h.hb, Paired.mapP h.pb fun _ _ q => rowR_mono _ _ _ _ (.of e) q⟩
theorem AW.addF (h : AW r u H H' b f l bs facc lacc i S) (f0 : H f = none) (n1 : b ≠ f) (n2 : l ≠ f) {y : Wy} {v : V} (hy : wEnd r y = true) (hv : WayR H' v (wcut y)) : AW r u H (upd H' f (.lst (facc ++ [v]))) b f l bs (facc ++ [v]) lacc i (S ++ [y]) := by
  have e : ExI H' (upd H' f (.lst (facc ++ [v]))) := ExI.lst h.hf
  refine ⟨Ex.mut h.ex f0, upd_same, ?_, by rw [upd_ne n2]; exact h.hl, ?_, by rw [upd_ne n1]; exact h.hb, Paired.mapP h.pb fun _ _ q => rowR_mono _ _ _ _ e q⟩
  · rw [List.filter_append, List.filter_cons, if_pos hy, List.filter_nil, List.map_append, ← List.append_assoc]
    exact paired_add (Paired.mapP h.pf fun _ _ q => wayR_mono _ _ _ _ e q) (wayR_mono _ _ _ _ e hv)
  · rw [List.filter_append, List.filter_cons, hy]
    show Paired _ _ (_ ++ [])
    rw [List.append_nil]
    exact Paired.mapP h.pl fun _ _ q => rowR_mono _ _ _ _ e q
theorem AW.addL (h : AW r u H H' b f l bs facc lacc i S) (l0 : H l = none) (n1 : b ≠ l) (n2 : f ≠ l) {y : Wy} {v : V} (hy : wEnd r y = false) (hv : RowR H' v y) : AW r u H (upd H' l (.lst (lacc ++ [v]))) b f l bs facc (lacc ++ [v]) i (S ++ [y]) := by
  have e : ExI H' (upd H' l (.lst (lacc ++ [v]))) := ExI.lst h.hl
  refine ⟨Ex.mut h.ex l0, by rw [upd_ne n2]; exact h.hf, ?_, upd_same, ?_, by rw [upd_ne n1]; exact h.hb, Paired.mapP h.pb fun _ _ q => rowR_mono _ _ _ _ e q⟩
  · rw [List.filter_append, List.filter_cons, hy]
    show Paired _ _ (_ ++ List.map wcut (_ ++ []))
    rw [List.append_nil]
    exact Paired.mapP h.pf fun _ _ q => wayR_mono _ _ _ _ e q
  · rw [List.filter_append, List.filter_cons, hy]
    show Paired _ _ (_ ++ [y])
    exact paired_add (Paired.mapP h.pl fun _ _ q => rowR_mono _ _ _ _ e q) (rowR_mono _ _ _ _ e hv)
end
abbrev st_law_all_ways : Stmt := top 91
def nm_law_all_ways : List Str := ["_law_plain", "_law_rules", "_law_begun", "_law_found", "_law_turn", "_law_later", "_law_way", "_law_node", "_law_cost", "_law_end", "_law_there", "_law_more", "_law_row"]
theorem sc_law_all_ways : FnScope nm_law_all_ways ["_law_plain", "_law_rules"] (defScope st_law_all_ways) := ⟨rfl, rfl, rfl, by decide +kernel, rfl, by decide +kernel, by decide +kernel⟩
def sp_law_all_ways : Sp := spR fun vs H R => ∃ x y r u, vs = [x, y] ∧ PlainAt H x r ∧ RDictAt H y u ∧ Bd r u ∧ R = fun v H2 => LstR WayR H2 v (wfound r u r.length)
theorem ok_law_all_ways (T : Tx K mg cG cR cL aF) (D : DefAt K mg "_law_all_ways" "_law_all_ways" "_law_all_ways" st_law_all_ways) (c_law_places_behind : Cal P w K mg base "_law_places_behind" ["_law_plain", "_law_rules", "_law_place"] 2 sp_law_places_behind)
    (c_law_step_told : Cal P w K mg base "_law_step_told" ["_law_plain", "_law_rules", "_law_node", "_law_end"] 3 (sp_law_step_told aF)) (c_law_sum_of : Cal P w K mg base "_law_sum_of" ["_law_one", "_law_other"] 1 sp_added_cost) : Cal P w K mg base "_law_all_ways" ["_law_plain", "_law_rules"] 4 sp_law_all_ways := by
  refine cal_of D sc_law_all_ways (fun _ _ _ _ _ _ us hl => match us, hl with | [_, _], _ => rfl) (fun vs H Q E h => ?_) (fun f cdv A outer s H vs Q E hr h => ?_)
  · obtain ⟨R, ⟨x, y, r, u, rfl, _⟩, _⟩ := h
    rfl
  · obtain ⟨R, ⟨x, y, r, u, rfl, hx, hy, hbd, rfl⟩, k⟩ := h
    refine ⟨_, (pss_cons (ps_par (i := 2) (j := 3) (by rfl) sc_law_all_ways.nd rfl rfl (by decide) rfl rfl (pa_cons (pe_lst (pa_cons (pe_tup (pa_cons (pe_tup pa_nil) (pa_cons (pe_tup (pa_cons (pe_un un_neg pe_int) (pa_cons pe_int (pa_cons pe_int (pa_cons pe_bl pa_nil))))) (pa_cons (pe_tup (pa_cons pe_int (pa_cons pe_int (pa_cons pe_int pa_nil)))) pa_nil)))) pa_nil)) (pa_cons (pe_lst pa_nil) pa_nil)) (by rfl))
      (pss_cons (ps_for PassesOwn.never rfl (pi_range1 rfl T.range_ (pa_cons (pe_callB call_len_seq (by rfl) T.len_ (by decide +kernel) (pa_cons (pv 0) pa_nil)) pa_nil)) (pg_name (i := 4) sc_law_all_ways.nd rfl (Or.inl rfl)) (pss_cons (ps_set (i := 5) sc_law_all_ways.nd rfl (Or.inl rfl) (pe_lst pa_nil))
      (pss_cons (ps_for PassesOwn.never rfl (pi_list (pv 2)) (pg_tup rfl (pgs_cons (pg_name (i := 6) sc_law_all_ways.nd rfl (Or.inl rfl)) (pgs_cons (pg_name (i := 7) sc_law_all_ways.nd rfl (Or.inl rfl)) (pgs_cons (pg_name (i := 8) sc_law_all_ways.nd rfl (Or.inl rfl)) pgs_nil)))) (pss_one (ps_for PassesOwn.never rfl (pi_list (pe_cal c_law_places_behind (hr.mono (by decide)) (pa_cons (pv 0) (pa_cons (pv 1) (pa_cons (pe_ix ix_tup (pv 7) pe_int (fun _ _ => rfl)) pa_nil))))) (pg_name (i := 9) sc_law_all_ways.nd rfl (Or.inl rfl)) (pss_cons (ps_asg (pe_cal c_law_step_told (hr.mono (by decide)) (pa_cons (pv 0) (pa_cons (pv 1) (pa_cons (pv 7) (pa_cons (pv 9) pa_nil))))) (pg_tup rfl (pgs_cons (pg_name (i := 10) sc_law_all_ways.nd rfl (Or.inl rfl)) (pgs_cons (pg_name (i := 11) sc_law_all_ways.nd rfl (Or.inl rfl)) pgs_nil))))
      (pss_cons (ps_set (i := 12) sc_law_all_ways.nd rfl (Or.inl rfl) (pe_tup (pa_cons (pe_op op_catA (pv 6) (pe_tup (pa_cons (pv 9) pa_nil))) (pa_cons (pv 10) (pa_cons (pe_cal c_law_sum_of (hr.mono (by decide)) (pa_cons (pv 8) (pa_cons (pv 11) pa_nil))) pa_nil)))))
      (pss_one (ps_if (pt_cmpR op_eq (pv 9) (pe_op op_sub (pe_callB call_len_seq (by rfl) T.len_ (by decide +kernel) (pa_cons (pv 0) pa_nil)) pe_int) (nomark _)) (pss_one (ps_expr (pe_bm PySem.F.plainAttrs_list PySem.F.slot_list_append PySem.F.type_list_append mt_append (pv 3) (pa_cons (pe_tup (pa_cons (pe_ix ix_tup (pv 12) pe_int (fun _ _ => rfl)) (pa_cons (pe_ix ix_tup (pv 12) pe_int (fun _ _ => rfl)) pa_nil))) pa_nil)))) (pss_one (ps_expr (pe_bm PySem.F.plainAttrs_list PySem.F.slot_list_append PySem.F.type_list_append mt_append (pv 5) (pa_cons (pv 12) pa_nil)))))))))))
      (pss_one (ps_set (i := 2) sc_law_all_ways.nd rfl (Or.inl rfl) (pe_callTy call_list_of (by rfl) T.list_ (by decide +kernel) (pa_cons (pv 5) pa_nil)))))))
      (pss_one (ps_ret (pv 3))))), ?_⟩
    obtain ⟨a, ws, rfl, ha, hi⟩ := id hx
    have hl := paired_len hi
    have hlen := hbd.len
    have htwo := hbd.two
    have h1r : 1 ≤ r.length := by omega
    have hpow : 2 ^ r.length ≤ 4096 := Nat.le_trans (Nat.pow_le_pow_right (by decide) hlen) (by decide : 2 ^ 12 ≤ 4096)
    -- begun, found
    refine q_parR (R := fun vs H' => ∃ b f bs, vs = [.ref b, .ref f] ∧ H f = none ∧ b ≠ f ∧ H' f = some (.lst []) ∧ H' b = some (.lst bs) ∧ Paired (RowR H') bs (wave r u 0)) (ear_cons (er_lstR (R := fun bs H' => ∃ v, bs = [v] ∧ RowR H' v ([], first, zero)) (ear_cons (er_tupR (R := fun vs H' => ∃ wv nv cv, vs = [wv, nv, cv] ∧ TupAt H' wv [] ∧ TupAt H' nv (nodeV first) ∧ TupAt H' cv (costV zero))
      (ear_cons (er_tup ea_nil (by show 0 ≤ 100000; decide)) fun wv H1 e1 h1 => ear_cons (er_tup (ea_cons (ev_un ev_c ru_neg) (ea_cons ev_c (ea_cons ev_c (ea_cons ev_c ea_nil)))) (by show 4 ≤ 100000; decide)) fun nv H2 e2 h2 => ear_cons (er_tup (ea_cons ev_c (ea_cons ev_c (ea_cons ev_c ea_nil))) (by show 3 ≤ 100000; decide)) fun cv H3 e3 h3 => ear_nil fun H4 e4 => ⟨wv, nv, cv, rfl, h1.mono ((e2.trans e3).trans e4), h2.mono (e3.trans e4), h3.mono e4⟩)
      fun vs H1 H2 e ⟨wv, nv, cv, h1, h2, h3, h4⟩ => ⟨by rw [h1]; show 3 ≤ 100000; decide, wv, nv, cv, h1, h2.mono e, h3.mono e, h4.mono e⟩) fun v H1 e1 ⟨vs, h1, wv, nv, cv, h2, h3, h4, h5⟩ => ear_nil fun H2 e2 => ⟨v, rfl, rowR_mono _ _ _ _ (.of e2) ⟨wv, nv, cv, by rw [← h2]; exact h1, h3, h4, h5⟩⟩)
      fun vs H1 H2 e ⟨v, h1, h2⟩ => ⟨by rw [h1]; show 1 ≤ 100000; decide, v, h1, rowR_mono _ _ _ _ (.of e) h2⟩) fun bv H1 e1 hbv => ?_) ?_
    · obtain ⟨bs, ⟨b, rfl, hb⟩, v0, rfl, hp⟩ := hbv
      refine ear_cons (lst_er (el_lst ea_nil (by show 0 ≤ 100000; decide))) fun v H2 e2 ⟨f, hv, hf0, hf2⟩ => ear_nil fun H3 e3 => ?_
      rw [hv]
      exact ⟨b, f, [v0], rfl, fresh_back e1 hf0, (fun z => by rw [← z, hb] at hf0; cases hf0), e3 _ _ hf2, e3 _ _ (e2 _ _ hb), .cons (rowR_mono _ _ _ _ (.of (e2.trans e3)) hp) .nil⟩
    rintro vs H1 e1 ⟨b, f, bs, rfl, hf0, hbf, hf1, hb1, hp1⟩
    refine ⟨_, _, rfl, ?_⟩
    refine q_forR1 (n := (r.length : Int)) (ea_cons (ev_is (ev_lenS (ev_var rfl) (.inl (sq_of (e1 _ _ ha)))) (by rw [hl])) ea_nil) ⟨by omega, by omega⟩
      (fun i σ' H' => ∃ b bs facc o4 o5 o6 o7 o8 o9 o10 o11 o12, σ' = [some (.ref a), some y, some (.ref b), some (.ref f), o4, o5, o6, o7, o8, o9, o10, o11, o12] ∧ Ex H H' ∧ b ≠ f ∧ H' f = some (.lst facc) ∧ Paired (WayR H') facc (wfound r u i) ∧ H' b = some (.lst bs) ∧ Paired (RowR H') bs (wave r u i))
      (fun H2 e2 => ⟨b, bs, [], _, _, _, _, _, _, _, _, _, rfl, e1.trans e2, hbf, e2 _ _ hf1, .nil, e2 _ _ hb1, Paired.mapP hp1 fun _ _ q => rowR_mono _ _ _ _ (.of e2) q⟩) ?_ ?_
    · rintro i σ' H' hi2 ⟨b, bs, facc, o4, o5, o6, o7, o8, o9, o10, o11, o12, rfl, eH, hbf, hf, hpf, hb, hpb⟩
      refine q_asgL (el_lst ea_nil (by show 0 ≤ 100000; decide)) fun l H2 hl0 e2 hl2 => ?_
      have l0 : H l = none := fresh_back eH hl0
      have nbl : b ≠ l := fun z => by rw [← z, hb] at hl0; cases hl0
      have nfl : f ≠ l := fun z => by rw [← z, hf] at hl0; cases hl0
      have hcnt := wcount2 (u := u) h1r i
      have aw0 : AW r u H H2 b f l bs facc [] i [] := ⟨eH.trans e2, e2 _ _ hf, by simpa using Paired.mapP hpf fun _ _ q => wayR_mono _ _ _ _ (.of e2) q, hl2, .nil, e2 _ _ hb, Paired.mapP hpb fun _ _ q => rowR_mono _ _ _ _ (.of e2) q⟩
      have hbl := paired_len hpb
      refine q_forL (a := b) (xs := bs) (ev_var rfl) (sq_of (e2 _ _ hb))
        (fun j σ' H' => ∃ facc lacc o6 o7 o8 o9 o10 o11 o12, σ' = [some (.ref a), some y, some (.ref b), some (.ref f), some (.int (i : Int)), some (.ref l), o6, o7, o8, o9, o10, o11, o12] ∧ AW r u H H' b f l bs facc lacc i (((wave r u i).take j).flatMap (wext r u)))
        (fun H3 e3 => ⟨facc, [], _, _, _, _, _, _, _, rfl, aw0.mono e3⟩) (fun j σ' H' _ h => by
          obtain ⟨_, _, _, _, _, _, _, _, _, _, h⟩ := h
          exact sq_of h.hb) ?_ ?_
      · rintro j xv σ' H3 hxv ⟨facc, lacc, o6, o7, o8, o9, o10, o11, o12, rfl, aw⟩
        have hj : j < (wave r u i).length := by
          have := (List.getElem?_eq_some_iff.mp hxv).1
          omega
        have hx2 : (wave r u i)[j]? = some (wave r u i)[j] := List.getElem?_eq_getElem hj
        have hxm : (wave r u i)[j] ∈ wave r u i := List.getElem_mem hj
        obtain ⟨xv', hxv', hrow⟩ := paired_get aw.pb hx2
        rw [hxv] at hxv'
        cases hxv'
        generalize hx0 : (wave r u i)[j] = x0 at hx2 hxm hrow
        obtain ⟨hwok, hwe⟩ := wave_ok h1r i x0 hxm
        have hpl := wave_pl h1r hxm
        obtain ⟨wv, nv, cv, ⟨ra, rfl, hra⟩, hwv, hnv, hcv⟩ := hrow
        refine ⟨ra, _, rfl, st_of hra, rfl, _, _, rfl, _, _, rfl, _, _, rfl, rfl, ?_⟩
        obtain ⟨wa, rfl, hwa⟩ := hwv
        obtain ⟨na, rfl, hna⟩ := hnv
        have hflat := flat_len (wext r u) hx2
        have hwlen : (wext r u x0).length = (nexts r u.hyp x0.2.1.p).length := List.length_map _
        have e3 := aw.ex
        refine s_forRL (R := fun v H' => ∃ l', v = .ref l' ∧ H3 l' = none ∧ H' l' = some (.lst (natsV (nexts r u.hyp x0.2.1.p)))) (ev_calR (ea_cons (ev_var rfl) (ea_cons (ev_var rfl) (ea_cons (ev_ixT (ev_var rfl) ev_c hna at0) ea_nil))) fun H4 e4 => ⟨_, _, r, u, _, rfl, hx.mono (e3.trans e4), hy.mono (e3.trans e4), hbd.ok, hpl, by omega, fun v H5 ⟨l', h1, h2, h3⟩ => ⟨l', h1, fresh_back e4 h2, h3⟩⟩) fun pv H4 e4 hpv => ?_
        obtain ⟨pb, rfl, hpb0, hpb4⟩ := hpv
        have npf : pb ≠ f := fun z => by rw [z, aw.hf] at hpb0; cases hpb0
        have npl : pb ≠ l := fun z => by rw [z, aw.hl] at hpb0; cases hpb0
        refine ⟨pb, natsV (nexts r u.hyp x0.2.1.p), rfl, hpb4, fun m σ' H' => ∃ facc lacc o9 o10 o11 o12, σ' = [some (.ref a), some y, some (.ref b), some (.ref f), some (.int (i : Int)), some (.ref l), some (.ref wa), some (.ref na), some cv, o9, o10, o11, o12] ∧ AW r u H H' b f l bs facc lacc i (((wave r u i).take j).flatMap (wext r u) ++ ((nexts r u.hyp x0.2.1.p).take m).map (wone r u x0)) ∧ H' pb = some (.lst (natsV (nexts r u.hyp x0.2.1.p))) ∧ TupAt H' (.ref wa) (x0.1.map V.int) ∧ TupAt H' (.ref na) (nodeV x0.2.1) ∧ TupAt H' cv (costV x0.2.2),
          ⟨facc, lacc, _, _, _, _, rfl, by rw [List.take_zero, List.map_nil, List.append_nil]; exact aw.mono e4, hpb4, ⟨wa, rfl, e4 _ _ hwa⟩, ⟨na, rfl, e4 _ _ hna⟩, hcv.mono e4⟩, fun m σ' H' _ ⟨_, _, _, _, _, _, _, _, h, _⟩ => h, ?_, ?_⟩
        · rintro m ev σ' H5 hev ⟨facc, lacc, o9, o10, o11, o12, rfl, aw5, hpb5, hwa5, hna5, hcv5⟩
          obtain ⟨e, he, rfl⟩ := natsV_get hev
          have hem := List.mem_of_getElem? he
          have hml : m < (nexts r u.hyp x0.2.1.p).length := (List.getElem?_eq_some_iff.mp he).1
          have hn1 := hwok.num
          have hn2 := hwok.len
          have hS : (((wave r u i).take j).flatMap (wext r u) ++ ((nexts r u.hyp x0.2.1.p).take m).map (wone r u x0)).length ≤ ((wave r u i).flatMap (wext r u)).length := by
            rw [List.length_append, List.length_map, List.length_take]
            omega
          have hSs : ((nexts r u.hyp x0.2.1.p).take (m + 1)).map (wone r u x0) = ((nexts r u.hyp x0.2.1.p).take m).map (wone r u x0) ++ [wone r u x0 e] := by
            rw [List.take_succ, he, List.map_append]
            rfl
          have e5 := aw5.ex
          refine q_asgG (R := fun v H' => StepR H' v (step r u x0.2.1 e)) (ev_calR (ea_cons (ev_var rfl) (ea_cons (ev_var rfl) (ea_cons (ev_var rfl) (ea_cons (ev_var rfl) ea_nil)))) fun H6 e6 => ⟨_, _, _, r, u, x0.2.1, e, rfl, hx.mono (e5.trans e6), hy.mono (e5.trans e6), hbd, hna5.mono e6, hpl, hem, by omega, rfl⟩) fun v H6 e6 hst => ?_
          obtain ⟨nv2, cv2, ⟨sa, rfl, hsa⟩, hnv2, hcv2⟩ := hst
          refine ⟨sa, _, rfl, st_of hsa, rfl, _, _, rfl, _, _, rfl, rfl, ?_⟩
          obtain ⟨wa', hwe', hwa6⟩ := hwa5.mono e6
          cases hwe'
          refine q_asgR (er_tupR (R := fun vs H' => ∃ w' n' c', vs = [w', n', c'] ∧ TupAt H' w' ((wone r u x0 e).1.map V.int) ∧ TupAt H' n' (nodeV (wone r u x0 e).2.1) ∧ TupAt H' c' (costV (wone r u x0 e).2.2)) (ear_cons (er_catA (ys := [.int (e : Int)]) (ev_var rfl) hwa6 (er_tup (ea_cons (ev_var rfl) ea_nil) (by show 1 ≤ 100000; decide)) (by simp) (by rw [List.length_map, hn2]; show i + 1 ≤ 100000; omega)) fun w' H7 e7 hw' =>
            ear_ev (ev_var rfl) fun H8 e8 => ear_cons (R1 := fun v H' => TupAt H' v (costV (wone r u x0 e).2.2)) (ev_calR (ea_cons (ev_var rfl) (ea_cons (ev_var rfl) ea_nil)) fun H9 e9 => ⟨_, _, _, _, rfl, hcv5.mono (((e6.trans e7).trans e8).trans e9), hcv2.mono ((e7.trans e8).trans e9), rfl⟩) fun c' H9 e9 hc' => ear_nil fun H10 e10 => ⟨w', nv2, c', rfl, by
              have := hw'.mono ((e8.trans e9).trans e10)
              unfold wone
              rw [List.map_append]
              exact this, hnv2.mono (((e7.trans e8).trans e9).trans e10), hc'.mono e10⟩) fun vs H1 H2 e ⟨w', n', c', h1, h2, h3, h4⟩ => ⟨by rw [h1]; show 3 ≤ 100000; decide, w', n', c', h1, h2.mono e, h3.mono e, h4.mono e⟩) fun rv H7 e7 hrv => ?_
          obtain ⟨vs, ⟨ra2, rfl, hra2⟩, w', n', c', rfl, hw', hn', hc'⟩ := hrv
          have aw7 := aw5.mono (e6.trans e7)
          have hpb7 := e7 _ _ (e6 _ _ hpb5)
          have hwa7 : TupAt H7 (.ref wa) (x0.1.map V.int) := ⟨wa, rfl, e7 _ _ hwa6⟩
          have hna7 := hna5.mono (e6.trans e7)
          have hcv7 := hcv5.mono (e6.trans e7)
          have lf := paired_len aw7.pf
          have ll := paired_len aw7.pl
          have lf2 := List.length_filter_le (wEnd r) (((wave r u i).take j).flatMap (wext r u) ++ ((nexts r u.hyp x0.2.1.p).take m).map (wone r u x0))
          have ll2 := List.length_filter_le (fun y => !wEnd r y) (((wave r u i).take j).flatMap (wext r u) ++ ((nexts r u.hyp x0.2.1.p).take m).map (wone r u x0))
          rw [List.length_append, List.length_map] at lf
          refine s_if (b := wEnd r (wone r u x0 e)) (et_is (et_test (ev_op (ev_var rfl) (ev_op (ev_lenS (ev_var rfl) (.inl (sq_of (aw7.ex _ _ ha)))) ev_c rv_I0) (rv_eq rfl))) (by rw [int_dec, hl]; rfl)) (fun hE H8 e8 => ?_) fun hE H8 e8 => ?_
          · refine s_appU (e8 _ _ aw7.hf) (ev_var rfl) (eu_tup (ea_cons (ev_ixT (ev_var rfl) ev_c (e8 _ _ hra2) at0) (ea_cons (ev_ixT (ev_var rfl) ev_c (e8 _ _ hra2) at2) ea_nil)) (by show 2 ≤ 100000; decide)) (by omega) fun p H9 hp e9 h9 => ?_
            have x9 : ExI H9 (upd H9 f (.lst (facc ++ [.ref p]))) := ExI.lst (e9 _ _ (e8 _ _ aw7.hf))
            have f9 := e8.trans e9
            refine ⟨facc ++ [.ref p], lacc, _, _, _, _, rfl, ?_, by rw [upd_ne npf]; exact f9 _ _ hpb7, (hwa7.mono f9).monoI x9, (hna7.mono f9).monoI x9, (hcv7.mono f9).monoI x9⟩
            rw [hSs, ← List.append_assoc]
            exact (aw7.mono f9).addF hf0 hbf nfl.symm hE ⟨w', c', ⟨p, rfl, h9⟩, hw'.mono f9, hc'.mono f9⟩
          · refine s_app (e8 _ _ aw7.hl) (ev_var rfl) (ev_var rfl) (by omega) fun H9 e9 => ?_
            have x9 : ExI H9 (upd H9 l (.lst (lacc ++ [.ref ra2]))) := ExI.lst (e9 _ _ (e8 _ _ aw7.hl))
            have f9 := e8.trans e9
            refine ⟨facc, lacc ++ [.ref ra2], _, _, _, _, rfl, ?_, by rw [upd_ne npl]; exact f9 _ _ hpb7, (hwa7.mono f9).monoI x9, (hna7.mono f9).monoI x9, (hcv7.mono f9).monoI x9⟩
            rw [hSs, ← List.append_assoc]
            exact (aw7.mono f9).addL l0 nbl nfl hE ⟨w', n', c', ⟨ra2, rfl, f9 _ _ hra2⟩, hw'.mono f9, hn'.mono f9, hc'.mono f9⟩
        · rintro σ' H5 ⟨facc, lacc, o9, o10, o11, o12, rfl, aw5, _⟩
          refine ⟨facc, lacc, _, _, _, _, _, _, _, rfl, ?_⟩
          rw [flat_take (wext r u) hx2]
          have : (natsV (nexts r u.hyp x0.2.1.p)).length = (nexts r u.hyp x0.2.1.p).length := List.length_map _
          rw [this, List.take_length] at aw5
          exact aw5
      · rintro σ' H3 ⟨facc, lacc, o6, o7, o8, o9, o10, o11, o12, rfl, aw⟩
        rw [hbl, List.take_length] at aw
        refine s_asgR (er_listOf (ev_var rfl) aw.hl) fun v H4 e4 hv => ?_
        obtain ⟨b2, rfl, hb20, hb24⟩ := hv
        refine ⟨b2, lacc, facc, _, _, _, _, _, _, _, _, _, rfl, aw.ex.trans e4, (fun z => by rw [z, aw.hf] at hb20; cases hb20), e4 _ _ aw.hf, Paired.mapP aw.pf fun _ _ q => wayR_mono _ _ _ _ (.of e4) q, hb24, Paired.mapP aw.pl fun _ _ q => rowR_mono _ _ _ _ (.of e4) q⟩
    · rintro σ' H' ⟨b, bs, facc, o4, o5, o6, o7, o8, o9, o10, o11, o12, rfl, eH, hbf, hf, hpf, hb, hpb⟩
      rw [show ((r.length : Int)).toNat = r.length from rfl] at hpf
      exact s_ret (ev_var rfl) fun H2 e2 => k _ H2 (eH.trans e2) ⟨f, facc, rfl, e2 _ _ hf, Paired.mapP hpf fun _ _ q => wayR_mono _ _ _ _ (.of e2) q⟩
end
end K51
set_option Elab.async false
set_option linter.all false
set_option maxRecDepth 100000
set_option maxHeartbeats 4000000
namespace K51
open PySem PySem.Spec PyProof.Rows L2 Evl LamX
section
variable {P : Program} {w : World} {K : PySem.W.Frag} {mg : Str → Option Value} {base : Heap} {cG cR cL aF cC Pt : Addr}
theorem er_minK {σ : L2.St} {H : Hp} {te : TE} {sh : Bool} {α : Type} {F : Hp → V → α → Prop} {kf : α → List Int} {ys : List α} (hm : RMono F) (h : EvR te σ H fun v H' => LstR F H' v ys) (hne : ys ≠ []) (hk : ∀ H' v y, F H' v y → OKey sh H' v (kf y)) :
    EvR (tCB (fun vs H Q => ∃ (l : Addr) (xs : List V) (kf : Nat → List Int), vs = [V.ref l] ∧ H l = some (.lst xs) ∧ 0 < xs.length ∧ (∀ j x, xs[j]? = some x → OKey sh H x (kf j)) ∧ ∀ j x H', Ex H H' → xs[j]? = some x → Best xs.length kf j → Q x H') (tCons te tNil)) σ H fun v H' => ∃ y, y ∈ ys ∧ F H' v y ∧ ∀ z ∈ ys, lexLt (kf z) (kf y) = false := fun H1 e Q q =>
  h H1 e _ fun v H2 e2 ⟨l, acc, hv, hl, hp⟩ => by
    have hlen := paired_len hp
    have hpos : 0 < ys.length := List.length_pos_iff.mpr hne
    have kd : ∀ {j : Nat} {y : α}, ys[j]? = some y → (ys.map kf).getD j [] = kf y := fun {j y} hj => by
      rw [List.getD_eq_getElem?_getD, List.getElem?_map, hj]
      rfl
    refine ⟨l, acc, fun j => (ys.map kf).getD j [], by rw [hv], hl, by omega, fun j x hj => ?_, fun j x H3 e3 hj hb => ?_⟩
    · obtain ⟨y, hy, hF⟩ := L2.paired_get hp hj
      simp only [kd hy]
      exact hk _ _ _ hF
    · obtain ⟨y, hy, hF⟩ := L2.paired_get hp hj
      refine q _ _ (e2.trans e3) ⟨y, List.mem_of_getElem? hy, hm _ _ _ _ (.of e3) hF, fun z hz => ?_⟩
      obtain ⟨j', hj'⟩ := List.mem_iff_getElem?.mp hz
      have h1 := (hb j' (by have := (List.getElem?_eq_some_iff.mp hj').1; omega)).1
      dsimp only at h1
      rw [kd hj', kd hy] at h1
      exact h1
theorem er_opR {σ : L2.St} {H : Hp} {ta tb : TE} {r : R2} {y : V} {R1 R : V → Hp → Prop} (h : EvR ta σ H R1) (hb : Ev tb σ H y) (hr : ∀ v H1, Ex H H1 → R1 v H1 → ∃ z, RV r v y H1 z ∧ ∀ H2, Ex H1 H2 → R z H2) : EvR (tOp r ta tb) σ H R := fun H1 e Q q =>
  h H1 e _ fun v H2 e2 h2 => by
    obtain ⟨z, h3, h4⟩ := hr v H2 (e.trans e2) h2
    exact hb H2 (e.trans e2) _ fun H3 e3 => h3 H3 e3 Q fun H4 e4 => q _ _ ((e2.trans e3).trans e4) (h4 H4 (e3.trans e4))
abbrev Sm := Cost × Int
def someOf (wr : Bool) (ys : List (List Int × Cost)) : List Sm := (ys.filter fun y => wr || decide (y.2.1 = 0)).map fun y => (y.2, (y.1.length : Int))
def SmR : Hp → V → Sm → Prop := fun H v y => ∃ cv, TupAt H v [cv, .int y.2] ∧ TupAt H cv (costV y.1)
theorem smR_mono : RMono SmR := fun H H' v y e ⟨cv, h1, h2⟩ => ⟨cv, h1.monoI e, h2.monoI e⟩
structure Due (S : List Sm) (lo : Int) (base : Sm) (many : Int) (least : Cost) : Prop where
  b1 : base ∈ S
  b2 : ∀ y ∈ S, lexLt (key y.1 ++ [y.2]) (key base.1 ++ [base.2]) = false
  m1 : ∃ y ∈ S, y.2 = many
  m2 : ∀ y ∈ S, lexLt [((y.2 - (base.2 + lo)).natAbs : Int), y.2] [((many - (base.2 + lo)).natAbs : Int), many] = false
  l1 : (least, many) ∈ S
  l2 : ∀ y ∈ S, y.2 = many → clt y.1 least = false
def smD (y : Sm) : PyData := .tuple [.tuple [.int y.1.1, .int y.1.2.1, .int y.1.2.2], .int y.2]
theorem smD_dp {K : PySem.W.Frag} {H : Hp} {v : V} {y : Sm} (h : SmR H v y) : Dp K H v (smD y) := by
  obtain ⟨cv, ⟨a, rfl, ha⟩, ⟨b, rfl, hb⟩⟩ := h
  exact .tup (st_of ha) (.cons (.tup (st_of hb) (.cons (.int _) (.cons (.int _) (.cons (.int _) .nil)))) (.cons (.int _) .nil))
theorem smD_ok (y : Sm) : (smD y).canLay0 = true ∧ (smD y).depth ≤ 60 := by
  constructor
  · simp [smD, PyData.canLay0, PyData.canLayAll0]
  · simp [smD, PyData.depth, PyData.depthAll]
abbrev st_law_least_told : Stmt := top 92
def nm_law_least_told : List Str := ["_law_ways", "_law_is_wrong", "_law_looseness", "_law_some", "_law_wished", "_law_number", "_law_way", "_law_cost", "_law_many"]
theorem sc_law_least_told : FnScope nm_law_least_told ["_law_ways", "_law_is_wrong", "_law_looseness"] (defScope st_law_least_told) := ⟨rfl, rfl, rfl, by decide +kernel, rfl, by decide +kernel, by decide +kernel⟩
def sp_law_least_told : Sp := spR fun vs H R => ∃ x ys, ∃ (wr : Bool) (lo : Int), vs = [x, .bl wr, .int lo] ∧ LstR WayR H x ys ∧ ys.length ≤ 5000 ∧ R = fun v H2 => (someOf wr ys = [] ∧ v = .non) ∨ ∃ base many least cv, Due (someOf wr ys) lo base many least ∧ TupAt H2 v [.int many, cv] ∧ TupAt H2 cv (costV least)
theorem ok_law_least_told (T : Tx K mg cG cR cL aF) (D : DefAt K mg "_law_least_told" "_law_least_told" "_law_least_told" st_law_least_told) : Cal P w K mg base "_law_least_told" ["_law_ways", "_law_is_wrong", "_law_looseness"] 1 sp_law_least_told := by
  refine cal_of D sc_law_least_told (fun _ _ _ _ _ _ us hl => match us, hl with | [_, _, _], _ => rfl) (fun vs H Q E h => ?_) (fun f cdv A outer s H vs Q E hr h => ?_)
  · obtain ⟨R, ⟨x, ys, wr, lo, rfl, _⟩, _⟩ := h
    rfl
  · obtain ⟨R, ⟨x, ys, wr, lo, rfl, hx, hyl, rfl⟩, k⟩ := h
    refine ⟨_, (pss_cons (ps_setLc (i := 3) (own := [("_law_way", 6), ("_law_cost", 7)]) rfl sc_law_least_told.nd rfl rfl (sw_true rfl rfl rfl (by decide +kernel)) (pi_list (pv 0)) (blkOk_by (own := [("_law_way", 6), ("_law_cost", 7)]) (N := nm_law_least_told) (sc := defScope st_law_least_told) (by decide +kernel)) (fun _ _ _ _ _ => (pg_tupK (K := K) (n := 2) rfl (pg_tup rfl (pgs_cons (pg_name (i := 6) sc_law_least_told.nd rfl (Or.inl rfl)) (pgs_cons (pg_name (i := 7) sc_law_least_told.nd rfl (Or.inl rfl)) pgs_nil))))) (fun _ _ _ _ _ => (pts_one (PW.pt (pw_or (pt_val (pv 1)) (pw_or1 (pt_cmpR op_eq (pe_ix (ix_tupK (K := K) rfl) (pv 7) pe_int (fun _ _ => rfl)) pe_int (nomark _))))))) (fun _ _ _ _ _ => (pe_tup (pa_cons (pv 7) (pa_cons (pe_callB (call_len_seqK (K := K) rfl) (by rfl) T.len_ (by decide +kernel) (pa_cons (pv 6) pa_nil)) pa_nil)))))
      (pss_cons (ps_if (pt_cmpR (op_eqD hr.units) (pv 3) (pe_lst pa_nil) (nomark _)) (pss_one (ps_ret pe_non)) pss_nil)
      (pss_cons (ps_set (i := 4) sc_law_least_told.nd rfl (Or.inr rfl) (pe_op op_add (pe_ix ix_tup (pe_callB (cr_minK (sh := true) rfl (Nat.lt_of_le_of_lt (Nat.add_le_add_left (by decide) _) hr.units)) (by rfl) T.min_ (by decide +kernel) (pa_cons (pv 3) pa_nil)) pe_int (fun _ _ => rfl)) (pv 2)))
      (pss_cons (ps_set (i := 5) sc_law_least_told.nd rfl (Or.inr rfl) (pe_ix ix_tup (pe_callB (cr_minK (sh := false) rfl (Nat.lt_of_le_of_lt (Nat.add_le_add_left (by decide) _) hr.units)) (by rfl) T.min_ (by decide +kernel) (pa_cons (pe_lc (own := [("_law_cost", 7), ("_law_many", 8)]) rfl sc_law_least_told.nd (pi_list (pv 3)) (blkOk_by (own := [("_law_cost", 7), ("_law_many", 8)]) (N := nm_law_least_told) (sc := defScope st_law_least_told) (by decide +kernel)) (fun _ _ _ _ _ => (pg_tupK (K := K) (n := 2) rfl (pg_tup rfl (pgs_cons (pg_name (i := 7) sc_law_least_told.nd rfl (Or.inl rfl)) (pgs_cons (pg_name (i := 8) sc_law_least_told.nd rfl (Or.inl rfl)) pgs_nil))))) (fun _ _ _ _ _ => pts_nil) (fun _ _ _ _ _ => (pe_tup (pa_cons (pe_callB call_abs (by rfl) T.abs_ (by decide +kernel) (pa_cons (pe_op op_sub (pv 8) (pv 4)) pa_nil)) (pa_cons (pv 8) pa_nil))))) pa_nil)) pe_int (fun _ _ => rfl)))
      (pss_one (ps_ret (pe_tup (pa_cons (pv 5) (pa_cons (pe_callB (cr_minK (sh := false) rfl (Nat.lt_of_le_of_lt (Nat.add_le_add_left (by decide) _) hr.units)) (by rfl) T.min_ (by decide +kernel) (pa_cons (pe_lc (own := [("_law_cost", 7), ("_law_many", 8)]) rfl sc_law_least_told.nd (pi_list (pv 3)) (blkOk_by (own := [("_law_cost", 7), ("_law_many", 8)]) (N := nm_law_least_told) (sc := defScope st_law_least_told) (by decide +kernel)) (fun _ _ _ _ _ => (pg_tupK (K := K) (n := 2) rfl (pg_tup rfl (pgs_cons (pg_name (i := 7) sc_law_least_told.nd rfl (Or.inl rfl)) (pgs_cons (pg_name (i := 8) sc_law_least_told.nd rfl (Or.inl rfl)) pgs_nil))))) (fun _ _ _ _ _ => (pts_one (pt_cmpR op_eq (pv 8) (pv 5) (nomark _)))) (fun _ _ _ _ _ => (pv 7))) pa_nil)) pa_nil))))))))), ?_⟩
    obtain ⟨a, acc, rfl, ha, hp⟩ := hx
    have hal := paired_len hp
    have hSl : (someOf wr ys).length ≤ 5000 := by
      unfold someOf
      rw [List.length_map]
      exact Nat.le_trans (List.length_filter_le _ _) hyl
    refine q_asgR (R := fun v H' => LstR SmR H' v (someOf wr ys)) (er_imp (er_lcL (R := SmR) smR_mono (xs := acc) (fun i => ((ys.take i).filter fun y => wr || decide (y.2.1 = 0)).map fun y => (y.2, (y.1.length : Int))) rfl (fun i => ?_) (er_of (ev_var rfl) fun H1 e1 => ⟨a, rfl, e1 _ _ ha⟩) ?_) fun v H1 _ h => ?_) fun sv H1 e1 hs => ?_
    · rw [List.length_map]
      refine Nat.lt_of_le_of_lt (List.length_filter_le _ _) ?_
      rw [List.length_take]
      omega
    · intro i z H1 e1 hz
      obtain ⟨y, hy, hw⟩ := L2.paired_get hp hz
      obtain ⟨wv, cv, h1, ⟨wa, rfl, hwa⟩, ⟨ca, rfl, hca⟩⟩ := wayR_mono _ _ _ _ (.of e1) hw
      have ho := out_filter (fun (y : List Int × Cost) => wr || decide (y.2.1 = 0)) (fun y => (y.2, (y.1.length : Int))) ys i hy
      refine turn_two h1 rfl (b := wr || decide (y.2.1 = 0)) (et_or (et_B (ev_var rfl)) fun _ => et_is (et_test (ev_op (ev_ixT (ev_var rfl) ev_c hca at0) ev_c (rv_eq rfl))) (int_dec _ _)) (fun hb => ⟨(y.2, (y.1.length : Int)), er_imp (er_tup (ea_cons (ev_var rfl) (ea_cons (ev_is (ev_lenS (ev_var rfl) (.inr (st_of hwa))) (by rw [List.length_map])) ea_nil)) (by show 2 ≤ 100000; decide)) fun v H4 e4 h => ⟨_, h, ⟨ca, rfl, e4 _ _ hca⟩⟩, ?_⟩) fun hb => ?_
      · rw [ho, hb]
        rfl
      · rw [ho, hb]
        exact List.append_nil _
    · rw [hal, List.take_length] at h
      exact h
    generalize someOf wr ys = S at hs k hSl
    obtain ⟨sa, sacc, rfl, hsa, hsp⟩ := id hs
    refine q_when (b := S.isEmpty) (et_is (et_test (ev_eqNil (ds := S.map smD) (ev_var rfl) hsa (fun H' e' => dpAll_of (Paired.mapP hsp fun v y q => smD_dp (smR_mono _ _ _ _ (.of e') q))) fun d hd => by
        obtain ⟨y, _, e⟩ := List.mem_map.mp hd
        rw [← e]
        exact smD_ok y)) (by cases S <;> rfl)) (fun hb H2 e2 => ?_) fun hb H2 e2 => ?_
    · exact s_ret ev_c fun H4 e4 => k _ H4 ((e1.trans e2).trans e4) (.inl ⟨List.isEmpty_iff.mp hb, rfl⟩)
    have hne : S ≠ [] := fun z => by rw [z] at hb; cases hb
    have f2 := e1.trans e2
    have hs2 := LstR.mono smR_mono e2 hs
    have hsl := paired_len hsp
    have okey : ∀ H' v y, SmR H' v y → OKey true H' v (key y.1 ++ [y.2]) := fun H' v y ⟨cv, h1, h2⟩ => by
      unfold OKey
      rw [if_pos rfl]
      exact ⟨cv, y.2, key y.1, h1, h2, rfl, rfl⟩
    refine q_asgR (R := fun v H' => ∃ base : Sm, v = .int (base.2 + lo) ∧ base ∈ S ∧ ∀ z ∈ S, lexLt (key z.1 ++ [z.2]) (key base.1 ++ [base.2]) = false) (er_opR (R1 := fun v H' => ∃ base : Sm, v = .int base.2 ∧ base ∈ S ∧ ∀ z ∈ S, lexLt (key z.1 ++ [z.2]) (key base.1 ++ [base.2]) = false) (er_opR (er_minK (sh := true) (kf := fun y => key y.1 ++ [y.2]) smR_mono (er_of (ev_var rfl) fun H3 e3 => LstR.mono smR_mono e3 hs2) hne okey) ev_c fun v H3 e3 ⟨y, hy, ⟨cv, ⟨ya, hya, h1⟩, h2⟩, h3⟩ => by
        rw [hya]
        exact ⟨.int y.2, rv_ixT (st_of h1) at1, fun _ _ => ⟨y, rfl, hy, h3⟩⟩) (ev_var rfl) fun v H3 e3 ⟨base, hv, h1, h2⟩ => by
        rw [hv]
        exact ⟨.int (base.2 + lo), rv_I0, fun _ _ => ⟨base, rfl, h1, h2⟩⟩) fun wv H3 e3 hwv => ?_
    obtain ⟨base, rfl, b1, b2⟩ := hwv
    have hs3 := LstR.mono smR_mono e3 hs2
    have hsa3 := e3 _ _ (e2 _ _ hsa)
    have hsp3 : Paired (SmR H3) sacc S := Paired.mapP hsp fun _ _ q => smR_mono _ _ _ _ (.of (e2.trans e3)) q
    refine q_asgR (R := fun v H' => ∃ y : Sm, v = .int y.2 ∧ y ∈ S ∧ ∀ z ∈ S, lexLt [((z.2 - (base.2 + lo)).natAbs : Int), z.2] [((y.2 - (base.2 + lo)).natAbs : Int), y.2] = false) (er_opR (er_minK (sh := false) (F := fun H' v (y : Sm) => TupAt H' v [.int ((y.2 - (base.2 + lo)).natAbs : Int), .int y.2]) (kf := fun y => [((y.2 - (base.2 + lo)).natAbs : Int), y.2]) (ys := S) (fun H H' v y e h => h.monoI e) (er_imp (er_lcL (R := fun H' v (y : Sm) => TupAt H' v [.int ((y.2 - (base.2 + lo)).natAbs : Int), .int y.2]) (fun H H' v y e h => h.monoI e) (xs := sacc) (fun i => S.take i) rfl (fun i => by rw [List.length_take]; omega) (er_of (ev_var rfl) fun H4 e4 => ⟨sa, rfl, e4 _ _ hsa3⟩) ?_) fun v H4 _ h => ?_) hne fun H' v y h => ?_) ev_c fun v H4 e4 ⟨y, hy, ⟨ya, hya, h1⟩, h3⟩ => by
        rw [hya]
        exact ⟨.int y.2, rv_ixT (st_of h1) at1, fun _ _ => ⟨y, rfl, hy, h3⟩⟩) fun nv H4 e4 hnv => ?_
    · intro i z H4 e4 hz
      obtain ⟨y, hy, hw⟩ := L2.paired_get hsp3 hz
      obtain ⟨cv, h1, h2⟩ := smR_mono _ _ _ _ (.of e4) hw
      refine turn_two h1 rfl (b := true) et_yes (fun _ => ⟨y, er_tup (ea_cons (ev_is (w := .int ((y.2 - (base.2 + lo)).natAbs : Int)) (ev_abs (ev_op (ev_var rfl) (ev_var rfl) rv_I0)) (by congr 1; split <;> omega)) (ea_cons (ev_var rfl) ea_nil)) (by show 2 ≤ 100000; decide), ?_⟩) fun h => nomatch h
      rw [List.take_succ, hy]
      rfl
    · rw [hsl, List.take_length] at h
      exact h
    · unfold OKey
      rw [if_neg (by decide)]
      exact h
    obtain ⟨ym, rfl, m1, m2⟩ := hnv
    have hsa4 := e4 _ _ hsa3
    have hsp4 : Paired (SmR H4) sacc S := Paired.mapP hsp3 fun _ _ q => smR_mono _ _ _ _ (.of e4) q
    have hne2 : ((S.filter fun y => decide (y.2 = ym.2)).map fun y => y.1) ≠ [] := fun z => by
      have h1 : ym ∈ S.filter fun y => decide (y.2 = ym.2) := List.mem_filter.mpr ⟨m1, decide_eq_true rfl⟩
      have h2 := List.mem_map_of_mem (f := fun y : Sm => y.1) h1
      rw [z] at h2
      cases h2
    refine s_retR (er_tupR (R := fun vs H' => ∃ least cv, vs = [.int ym.2, cv] ∧ TupAt H' cv (costV least) ∧ least ∈ ((S.filter fun y => decide (y.2 = ym.2)).map fun y => y.1) ∧ ∀ z ∈ ((S.filter fun y => decide (y.2 = ym.2)).map fun y => y.1), lexLt (key z) (key least) = false) (ear_ev (ev_var rfl) fun H5 e5 => ear_cons (er_minK (sh := false) (F := fun H' v (c : Cost) => TupAt H' v (costV c)) (kf := key) (ys := (S.filter fun y => decide (y.2 = ym.2)).map fun y => y.1) (fun H H' v y e h => h.monoI e) (er_imp (er_lcL (R := fun H' v (c : Cost) => TupAt H' v (costV c)) (fun H H' v y e h => h.monoI e) (xs := sacc) (fun i => ((S.take i).filter fun y => decide (y.2 = ym.2)).map fun y => y.1) rfl (fun i => ?_) (er_of (ev_var rfl) fun H6 e6 => ⟨sa, rfl, e6 _ _ (e5 _ _ hsa4)⟩) ?_) fun v H6 _ h => ?_) hne2 fun H' v y h => ?_) fun cv H6 e6 ⟨c, h1, h2, h3⟩ => ear_nil fun H7 e7 => ⟨c, cv, rfl, h2.mono e7, h1, h3⟩) fun vs H1 H2 e ⟨c, cv, h1, h2, h3⟩ => ⟨by rw [h1]; show 2 ≤ 100000; decide, c, cv, h1, h2.mono e, h3⟩) fun v H5 e5 hv => ?_
    · rw [List.length_map]
      refine Nat.lt_of_le_of_lt (List.length_filter_le _ _) ?_
      rw [List.length_take]
      omega
    · intro i z H6 e6 hz
      obtain ⟨y, hy, hw⟩ := L2.paired_get hsp4 hz
      obtain ⟨cv, h1, h2⟩ := smR_mono _ _ _ _ (.of (e5.trans e6)) hw
      have ho := out_filter (fun (y : Sm) => decide (y.2 = ym.2)) (fun y => y.1) S i hy
      refine turn_two h1 rfl (b := decide (y.2 = ym.2)) (et_is (et_test (ev_op (ev_var rfl) (ev_var rfl) (rv_eq rfl))) (int_dec _ _)) (fun hb => ⟨y.1, er_of (ev_var rfl) fun H7 e7 => h2.mono e7, ?_⟩) fun hb => ?_
      · rw [ho, hb]
        rfl
      · rw [ho, hb]
        exact List.append_nil _
    · rw [hsl, List.take_length] at h
      exact h
    · unfold OKey
      rw [if_neg (by decide)]
      exact h
    obtain ⟨vs, hv, least, cv, rfl, h2, h3, h4⟩ := hv
    refine k v H5 (((f2.trans e3).trans e4).trans e5) (.inr ⟨base, ym.2, least, cv, ⟨b1, b2, ⟨ym, m1, rfl⟩, m2, ?_, fun y hy he => ?_⟩, hv, h2⟩)
    · obtain ⟨y, hy, e⟩ := List.mem_map.mp h3
      rw [List.mem_filter] at hy
      have h5 := of_decide_eq_true hy.2
      rw [← e, ← h5]
      exact hy.1
    · exact h4 _ (List.mem_map.mpr ⟨y, List.mem_filter.mpr ⟨hy, decide_eq_true he⟩, rfl⟩)
end
end K51
set_option Elab.async false
set_option linter.all false
set_option maxRecDepth 100000
set_option maxHeartbeats 4000000
namespace K51
open PySem PySem.Spec PyProof.Rows L2 Evl LamX
theorem path_det {r : Row} {u : Ru} {wr wr' : Bool} : ∀ {x y : Nd} {c d : Cost} {w v : List Int}, Path r u wr x c w → Path r u wr' y d v → w = v → x = y ∧ c = d := by
  intro x y c d w v h
  induction h generalizing y d v with
  | nil =>
    intro h2 e
    cases h2 with
    | nil => exact ⟨rfl, rfl⟩
    | snoc a b => simp at e
  | @snoc x0 y0 c0 d0 w0 hp ho ih =>
    intro h2 e
    cases h2 with
    | nil => simp at e
    | @snoc x1 y1 c1 d1 w1 hp1 ho1 =>
      have e1 := List.append_inj' e rfl
      obtain ⟨hx, hc⟩ := ih hp1 e1.1
      subst hx
      subst hc
      have e2 : y0.p = y.p := by simpa using e1.2
      obtain ⟨_, a, ha, hs, _⟩ := outs_mem ho
      obtain ⟨_, b, hb, ht, _⟩ := outs_mem ho1
      have p1 : y0.p = (a : Int) := (congrArg (fun z => z.1.p) hs).symm
      have p2 : y.p = (b : Int) := (congrArg (fun z => z.1.p) ht).symm
      have : a = b := by omega
      subst this
      rw [hs] at ht
      cases ht
      exact ⟨rfl, rfl⟩
theorem path_true {r : Row} {u : Ru} {wr : Bool} {x : Nd} {c : Cost} {w : List Int} (h : Path r u wr x c w) : Path r u true x c w := by
  induction h with
  | nil => exact .nil
  | snoc hp ho ih =>
    obtain ⟨h1, k, h2, h3, _⟩ := outs_mem ho
    refine .snoc ih ?_
    rw [← h3]
    exact step_mem_outs h1 h2
theorem path_num {r : Row} {u : Ru} {wr : Bool} {x : Nd} {c : Cost} {w : List Int} (h : Path r u wr x c w) : x.n = (w.length : Int) := by
  induction h with
  | nil => rfl
  | @snoc x0 y0 c0 d0 w0 hp ho ih =>
    obtain ⟨h1, k, h2, h3, _⟩ := outs_mem ho
    have : y0.n = x0.n + 1 := (congrArg (fun z => z.1.n) h3).symm
    rw [this, ih, List.length_append]
    rfl
theorem path_prefix {r : Row} {u : Ru} {wr : Bool} {x : Nd} {c : Cost} {w : List Int} (h : Path r u wr x c w) : ∀ i e, w[i]? = some e → ∃ x0 c0 y0 d0, ∃ k : Nat, Path r u wr x0 c0 (w.take i) ∧ e = (k : Int) ∧ isEnd r x0 = false ∧ k ∈ nexts r u.hyp x0.p ∧ step r u x0 k = (y0, d0) ∧ Path r u wr y0 (cadd c0 d0) (w.take (i + 1)) := by
  induction h with
  | nil => intro i e he; simp at he
  | @snoc x0 y0 c0 d0 w0 hp ho ih =>
    intro i e he
    by_cases hi : i < w0.length
    · rw [List.getElem?_append_left hi] at he
      obtain ⟨x1, c1, y1, d1, k, h1, h2, h3, h4, h5, h6⟩ := ih i e he
      refine ⟨x1, c1, y1, d1, k, ?_, h2, h3, h4, h5, ?_⟩
      · rw [List.take_append_of_le_length (by omega)]
        exact h1
      · rw [List.take_append_of_le_length (by omega)]
        exact h6
    · have hi2 : i = w0.length := by
        have := (List.getElem?_eq_some_iff.mp he).1
        rw [List.length_append] at this
        simp at this
        omega
      subst hi2
      simp at he
      obtain ⟨h1, k, h2, h3, h4⟩ := outs_mem ho
      have p1 : y0.p = (k : Int) := (congrArg (fun z => z.1.p) h3).symm
      refine ⟨x0, c0, y0, d0, k, ?_, by rw [← he, p1], h1, h2, h3, ?_⟩
      · rw [List.take_append_of_le_length (by omega), List.take_length]
        exact hp
      · rw [List.take_of_length_le (by simp)]
        exact .snoc hp ho
theorem eqv_nilT (ds : List PyData) : PyData.eqv (.tuple ds) (.tuple []) = ds.isEmpty := by
  cases ds <;> rfl
theorem shaped_tup {ds : List PyData} (h : ∀ d ∈ ds, d.canLay0 = true ∧ d.depth ≤ 60) : SeqAt.shaped (.tuple ds) = true := shaped_list h
theorem ev_eqNilT {K : PySem.W.Frag} {σ : L2.St} {H : Hp} {ta : TE} {a : Addr} {vs : List V} {ds : List PyData} (h : Ev ta σ H (.ref a)) (ha : H a = some (.tup vs)) (hd : ∀ H', Ex H H' → DpAll K H' vs ds) (hs : ∀ d ∈ ds, d.canLay0 = true ∧ d.depth ≤ 60) : Ev (tOp (rEqD K) ta (tTup tNil)) σ H (.bl ds.isEmpty) :=
  ev_opU h (eu_tup ea_nil (by decide)) fun p H1 hp e1 => rv_val fun H2 e2 Q q => ⟨.tuple ds, .tuple [], .tup (st_of ((e1.trans e2) _ _ ha)) (hd H2 (e1.trans e2)), .tup (st_of (e2 _ _ hp)) .nil, shaped_tup hs, by rfl, by rw [eqv_nilT]; exact q⟩
/-- a new empty list != [] -/
theorem et_neNil {K : PySem.W.Frag} {σ : L2.St} {H : Hp} {ta : TE} (h : EvR ta σ H fun v H' => LstAt H' v []) : EvT (tTest (tOp (rNeD K) ta (tLst tNil))) σ H false := fun H1 e Q q =>
  h H1 e _ fun v H2 e2 ⟨a, hv, ha⟩ => el_lst (vs := []) ea_nil (by decide) H2 (Ex.refl H2) _ fun p H3 _ e3 hp => ⟨.list [], .list [], by rw [hv]; exact .lst (sq_of (e3 _ _ ha)) .nil, .lst (sq_of hp) .nil, by rfl, by rfl, false, rfl, q H3 (e2.trans e3)⟩
theorem et_niR {K : PySem.W.Frag} {σ : L2.St} {H : Hp} {ta tb : TE} {x : V} {xs : List V} (ha : Ev ta σ H x) (hb : EvR tb σ H fun v H' => LstAt H' v xs) (hx : flatV x = true) (hf : xs.all flatV = true) : EvT (tTest (tOp (rIn K true) ta tb)) σ H (!inV x xs) := fun H1 e Q q =>
  ha H1 e _ fun H2 e2 => hb H2 (e.trans e2) _ fun v H3 e3 ⟨a, hv, h⟩ => by
    rw [hv]
    exact rv_niL (sq_of h) hx hf H3 (Ex.refl H3) _ fun H4 e4 => ⟨_, rfl, q H4 ((e2.trans e3).trans e4)⟩
section
variable {P : Program} {w : World} {K : PySem.W.Frag} {mg : Str → Option Value} {base : Heap} {cG cR cL aF cC Pt : Addr}
abbrev st_law_way_cost : Stmt := top 93
def nm_law_way_cost : List Str := ["_law_plain", "_law_rules", "_law_way", "_law_node", "_law_cost", "_law_end", "_law_more", "_law_one"]
theorem sc_law_way_cost : FnScope nm_law_way_cost ["_law_plain", "_law_rules", "_law_way"] (defScope st_law_way_cost) := ⟨rfl, rfl, rfl, by decide +kernel, rfl, by decide +kernel, by decide +kernel⟩
def sp_law_way_cost : Sp := spR fun vs H R => ∃ x y z r u, ∃ (wr : Bool) (nd : Nd) (c : Cost) (wy : List Int), vs = [x, y, z] ∧ PlainAt H x r ∧ RDictAt H y u ∧ Bd r u ∧ TupAt H z (wy.map V.int) ∧ Path r u wr nd c wy ∧ isEnd r nd = true ∧ R = fun v H2 => TupAt H2 v (costV c)
theorem ok_law_way_cost (T : Tx K mg cG cR cL aF) (D : DefAt K mg "_law_way_cost" "_law_way_cost" "_law_way_cost" st_law_way_cost) (c_law_places_behind : Cal P w K mg base "_law_places_behind" ["_law_plain", "_law_rules", "_law_place"] 2 sp_law_places_behind)
    (c_law_step_told : Cal P w K mg base "_law_step_told" ["_law_plain", "_law_rules", "_law_node", "_law_end"] 3 (sp_law_step_told aF)) (c_law_sum_of : Cal P w K mg base "_law_sum_of" ["_law_one", "_law_other"] 1 sp_added_cost) : Cal P w K mg base "_law_way_cost" ["_law_plain", "_law_rules", "_law_way"] 4 sp_law_way_cost := by
  refine cal_of D sc_law_way_cost (fun _ _ _ _ _ _ us hl => match us, hl with | [_, _, _], _ => rfl) (fun vs H Q E h => ?_) (fun f cdv A outer s H vs Q E hr h => ?_)
  · obtain ⟨R, ⟨x, y, z, r, u, wr, nd, c, wy, rfl, _⟩, _⟩ := h
    rfl
  · obtain ⟨R, ⟨x, y, z, r, u, wr, nd, c, wy, rfl, hx, hy, hbd, hz, hp, hend, rfl⟩, k⟩ := h
    refine ⟨_, (pss_cons (ps_if (PW.pt (pw_or (pt_not (pt_val (pe_callB call_isi (by rfl) T.isinstance_ (by decide +kernel) (pa_cons (pv 2) (pa_cons (pe_bltn (v := .ty "tuple") rfl T.tuple_ (by decide +kernel) rfl) pa_nil))))) (pw_or (pt_cmpR (op_eqD hr.units) (pv 2) (pe_tup pa_nil) (nomark _)) (pw_or1 (pt_cmpR (op_neD hr.units) (pe_lc (own := [("_law_one", 7)]) rfl sc_law_way_cost.nd (pi_tup (pv 2)) (blkOk_by (own := [("_law_one", 7)]) (N := nm_law_way_cost) (sc := defScope st_law_way_cost) (by decide +kernel)) (fun _ _ _ _ _ => (pg_name (i := 7) sc_law_way_cost.nd rfl (Or.inl rfl))) (fun _ _ _ _ _ => (pts_one (pt_val (pe_callB (call_isiKK (K := K) rfl) (by rfl) T.isinstance_ (by decide +kernel) (pa_cons (pv 7) (pa_cons (pe_bltn (v := .ty "bool") rfl T.bool_ (by decide +kernel) rfl) pa_nil)))))) (fun _ _ _ _ _ => (pv 7))) (pe_lst pa_nil) (nomark _)))))) (pss_one (ps_ret pe_non)) pss_nil)
      (pss_cons (ps_asg (pe_tup (pa_cons (pe_tup (pa_cons (pe_un un_neg pe_int) (pa_cons pe_int (pa_cons pe_int (pa_cons pe_bl pa_nil))))) (pa_cons (pe_tup (pa_cons pe_int (pa_cons pe_int (pa_cons pe_int pa_nil)))) pa_nil))) (pg_tup rfl (pgs_cons (pg_name (i := 3) sc_law_way_cost.nd rfl (Or.inl rfl)) (pgs_cons (pg_name (i := 4) sc_law_way_cost.nd rfl (Or.inl rfl)) pgs_nil))))
      (pss_cons (ps_for PassesOwn.never rfl (pi_tup (pv 2)) (pg_name (i := 5) sc_law_way_cost.nd rfl (Or.inl rfl)) (pss_cons (ps_if (PW.pt (pw_or (pt_cmpR op_eq (pe_ix ix_tup (pv 3) pe_int (fun _ _ => rfl)) (pe_op op_sub (pe_callB call_len_seq (by rfl) T.len_ (by decide +kernel) (pa_cons (pv 0) pa_nil)) pe_int) (nomark _)) (pw_or1 (pt_cmpR op_notIn_seq (pv 5) (pe_cal c_law_places_behind (hr.mono (by decide)) (pa_cons (pv 0) (pa_cons (pv 1) (pa_cons (pe_ix ix_tup (pv 3) pe_int (fun _ _ => rfl)) pa_nil)))) rfl)))) (pss_one (ps_ret pe_non)) pss_nil)
      (pss_cons (ps_asg (pe_cal c_law_step_told (hr.mono (by decide)) (pa_cons (pv 0) (pa_cons (pv 1) (pa_cons (pv 3) (pa_cons (pv 5) pa_nil))))) (pg_tup rfl (pgs_cons (pg_name (i := 3) sc_law_way_cost.nd rfl (Or.inl rfl)) (pgs_cons (pg_name (i := 6) sc_law_way_cost.nd rfl (Or.inl rfl)) pgs_nil))))
      (pss_one (ps_set (i := 4) sc_law_way_cost.nd rfl (Or.inl rfl) (pe_cal c_law_sum_of (hr.mono (by decide)) (pa_cons (pv 4) (pa_cons (pv 6) pa_nil))))))))
      (pss_one (ps_ret (pe_ifExp (pt_cmpR op_eq (pe_ix ix_tup (pv 3) pe_int (fun _ _ => rfl)) (pe_op op_sub (pe_callB call_len_seq (by rfl) T.len_ (by decide +kernel) (pa_cons (pv 0) pa_nil)) pe_int) (nomark _)) (pv 4) pe_non)))))), ?_⟩
    obtain ⟨a, ws, rfl, ha, hi⟩ := id hx
    have hl := paired_len hi
    have htwo := hbd.two
    have hlen := hbd.len
    obtain ⟨za, rfl, hza⟩ := hz
    have hpe : nd.p = (r.length : Int) - 1 := of_decide_eq_true hend
    have hwy : wy ≠ [] := fun z => by
      have := (path_first hp z).1
      rw [this] at hpe
      have : (-1 : Int) = _ := hpe
      omega
    have hdp : ∀ H', Ex H H' → DpAll K H' (wy.map V.int) (wy.map PyData.int) := fun H' _ => by
      clear hwy hp hza
      induction wy with
      | nil => exact .nil
      | cons x l ih => exact .cons (.int _) ih
    refine q_when (b := false) (et_is (et_or (a := false) (b := false) (et_not (a := true) (et_B (ev_isi (b := true) (ev_var rfl) ev_c (fun H1 e1 => .base (.tup (e1 _ _ hza))) rfl))) fun _ => et_or (a := false) (b := false) (et_is (et_test (ev_eqNilT (ds := wy.map PyData.int) (ev_var rfl) hza hdp fun d hd => ?_)) ?_) fun _ => et_neNil ?_) rfl) (fun h => nomatch h) fun _ H1 e1 => ?_
    · obtain ⟨q, _, e⟩ := List.mem_map.mp hd
      rw [← e]
      exact ⟨by rfl, by simp [PyData.depth]⟩
    · cases wy with
      | nil => exact absurd rfl hwy
      | cons q l => rfl
    · refine er_imp (er_lcT (R := fun _ v (n : Int) => v = .int n) (fun _ _ _ _ _ h => h) (xs := wy.map V.int) (fun _ => []) rfl (fun _ => by show 0 < 1000000; decide) (er_of (ev_var rfl) fun H2 e2 => ⟨za, rfl, e2 _ _ hza⟩) fun i z H2 e2 hz => ?_) fun v H2 _ ⟨b, acc, h1, h2, h3⟩ => ⟨b, h1, by cases h3; exact h2⟩
      rw [List.getElem?_map] at hz
      obtain ⟨q, _, rfl⟩ := Option.map_eq_some_iff.mp hz
      exact turn_name (b := false) rfl (et_B (ev_isi (m := "int") (b := false) (ev_var rfl) ev_c (fun H1 e1 => .base (.int _)) rfl)) (fun h => nomatch h) fun _ => rfl
    refine q_unpR (R := fun vs H' => ∃ nv cv, vs = [nv, cv] ∧ TupAt H' nv (nodeV first) ∧ TupAt H' cv (costV zero)) (ear_cons (er_tup (ea_cons (ev_un ev_c ru_neg) (ea_cons ev_c (ea_cons ev_c (ea_cons ev_c ea_nil)))) (by show 4 ≤ 100000; decide)) fun nv H2 e2 h2 => ear_cons (er_tup (ea_cons ev_c (ea_cons ev_c (ea_cons ev_c ea_nil))) (by show 3 ≤ 100000; decide)) fun cv H3 e3 h3 => ear_nil fun H4 e4 => ⟨nv, cv, rfl, h2.mono (e3.trans e4), h3.mono e4⟩) (by show 2 ≤ 100000; decide) fun vs H2 e2 hvs => ?_
    obtain ⟨nv, cv, rfl, hnv, hcv⟩ := hvs
    refine ⟨rfl, fun H3 e3 => ⟨_, _, rfl, _, _, rfl, rfl, ?_⟩⟩
    have f3 := (e1.trans e2).trans e3
    refine q_forT (a := za) (xs := wy.map V.int) (ev_var rfl) (st_of (f3 _ _ hza)) (fun i σ' H' => ∃ nv cv o5 o6 o7 x0 c0, σ' = [some (.ref a), some y, some (.ref za), some nv, some cv, o5, o6, o7] ∧ Ex H H' ∧ TupAt H' nv (nodeV x0) ∧ TupAt H' cv (costV c0) ∧ Path r u wr x0 c0 (wy.take i))
      (fun H4 e4 => ⟨nv, cv, _, _, _, first, zero, rfl, f3.trans e4, hnv.mono (e3.trans e4), hcv.mono (e3.trans e4), .nil⟩) (fun i σ' H' _ ⟨_, _, _, _, _, _, _, _, h, _⟩ => st_of (h _ _ hza)) ?_ ?_
    · rintro i zv σ' H4 hzv ⟨nv, cv, o5, o6, o7, x0, c0, rfl, f4, hnv, hcv, hpx⟩
      rw [List.getElem?_map] at hzv
      obtain ⟨e0, he0, rfl⟩ := Option.map_eq_some_iff.mp hzv
      obtain ⟨x1, c1, y1, d1, kk, p1, rfl, p3, p4, p5, p6⟩ := path_prefix hp i e0 he0
      obtain ⟨rfl, rfl⟩ := path_det p1 hpx rfl
      have hwok : WOk r u i (wy.take i, x1, c1) ∨ True := .inr trivial
      obtain ⟨na, rfl, hna⟩ := hnv
      obtain ⟨_, _, hlen1, hpl1⟩ := path_wave (path_true hpx)
      have hpl : Pl r x1.p := by
        rcases hpl1 with h | h
        · exact h
        · rw [p3] at h
          cases h.2
      have hnum : 0 ≤ x1.n ∧ x1.n ≤ 900 := by
        rw [path_num hpx]
        rcases hpl with h | h <;> omega
      have hne1 : ¬ x1.p = (r.length : Int) - 1 := of_decide_eq_false p3
      refine q_when (b := false) (et_is (et_or (a := false) (b := false) (et_is (et_test (ev_op (ev_ixT (ev_var rfl) ev_c hna at0) (ev_op (ev_lenS (ev_var rfl) (.inl (sq_of (f4 _ _ ha)))) ev_c rv_I0) (rv_eq rfl))) (by rw [int_dec, hl]; exact decide_eq_false hne1)) fun _ => et_is (et_niR (xs := natsV (nexts r u.hyp x1.p)) (ev_var rfl) (er_imp (ev_calR (R := fun v H2 => ∃ l, v = .ref l ∧ H4 l = none ∧ H2 l = some (.lst (natsV (nexts r u.hyp x1.p)))) (ea_cons (ev_var rfl) (ea_cons (ev_var rfl) (ea_cons (ev_ixT (ev_var rfl) ev_c hna at0) ea_nil))) fun H5 e5 => ⟨_, _, r, u, _, rfl, hx.mono (f4.trans e5), hy.mono (f4.trans e5), hbd.ok, hpl, by omega, fun v H6 ⟨l', h1, h2, h3⟩ => ⟨l', h1, fresh_back e5 h2, h3⟩⟩) fun v H5 _ ⟨l, h1, h2, h3⟩ => ⟨l, h1, h3⟩) rfl ?_) ?_) rfl) (fun h => nomatch h) fun _ H5 e5 => ?_
      · unfold natsV
        rw [List.all_eq_true]
        intro q hq
        obtain ⟨_, _, rfl⟩ := List.mem_map.mp hq
        rfl
      · have : inV (.int (kk : Int)) (natsV (nexts r u.hyp x1.p)) = true := by
          unfold inV natsV
          rw [List.any_eq_true]
          exact ⟨.int (kk : Int), List.mem_map.mpr ⟨kk, p4, rfl⟩, by simp [eqV]⟩
        rw [this]
        rfl
      have f5 := f4.trans e5
      refine q_asgG (R := fun v H' => StepR H' v (step r u x1 kk)) (ev_calR (ea_cons (ev_var rfl) (ea_cons (ev_var rfl) (ea_cons (ev_var rfl) (ea_cons (ev_var rfl) ea_nil)))) fun H6 e6 => ⟨_, _, _, r, u, x1, kk, rfl, hx.mono (f5.trans e6), hy.mono (f5.trans e6), hbd, ⟨na, rfl, e6 _ _ (e5 _ _ hna)⟩, hpl, p4, hnum, rfl⟩) fun v H6 e6 hst => ?_
      obtain ⟨nv2, cv2, ⟨sa, rfl, hsa⟩, hnv2, hcv2⟩ := hst
      refine ⟨sa, _, rfl, st_of hsa, rfl, _, _, rfl, _, _, rfl, rfl, ?_⟩
      rw [p5] at hnv2 hcv2
      refine s_asgR (R := fun v H' => TupAt H' v (costV (cadd c1 d1))) (ev_calR (ea_cons (ev_var rfl) (ea_cons (ev_var rfl) ea_nil)) fun H7 e7 => ⟨_, _, _, _, rfl, hcv.mono ((e5.trans e6).trans e7), hcv2.mono e7, rfl⟩) fun v H7 e7 h7 => ?_
      exact ⟨nv2, v, _, _, _, y1, cadd c1 d1, rfl, (f5.trans e6).trans e7, hnv2.mono e7, h7, p6⟩
    · rintro σ' H4 ⟨nv, cv, o5, o6, o7, x0, c0, rfl, f4, hnv, hcv, hpx⟩
      rw [List.length_map, List.take_length] at hpx
      obtain ⟨rfl, rfl⟩ := path_det hpx hp rfl
      obtain ⟨na, rfl, hna⟩ := hnv
      exact s_ret (ev_if (b := true) (et_is (et_test (ev_op (ev_ixT (ev_var rfl) ev_c hna at0) (ev_op (ev_lenS (ev_var rfl) (.inl (sq_of (f4 _ _ ha)))) ev_c rv_I0) (rv_eq rfl))) (by rw [int_dec, hl]; exact decide_eq_true hpe)) (fun _ => ev_var rfl) fun h => nomatch h) fun H5 e5 => k _ H5 (f4.trans e5) (hcv.mono e5)
end
end K51
set_option Elab.async false
set_option linter.all false
set_option maxRecDepth 100000
set_option maxHeartbeats 4000000
namespace K51
open PySem PySem.Spec PyProof.Rows L2 Evl LamX
/-! ### readings under the dice: all but the dice stays -/
def EvX (d : Addr) (te : TE) (σ : L2.St) (H : Hp) (R : V → Hp → Prop) : Prop := ∀ H1, XD d H H1 → DiceH H1 d → ∀ Q : VK, (∀ v H2, XD d H1 H2 → DiceH H2 d → R v H2 → Q v H2) → te σ H1 Q
def EaX (d : Addr) (ta : TA) (σ : L2.St) (H : Hp) (R : List V → Hp → Prop) : Prop := ∀ H1, XD d H H1 → DiceH H1 d → ∀ Q : List V → Hp → Prop, (∀ vs H2, XD d H1 H2 → DiceH H2 d → R vs H2 → Q vs H2) → ta σ H1 Q
section
variable {d : Addr} {σ : L2.St} {H : Hp} {te : TE} {ta tr : TA} {v : V}
theorem ex_ev {R : V → Hp → Prop} (h : ∀ H1, XD d H H1 → Ev te σ H1 v) (hr : ∀ H1, XD d H H1 → R v H1) : EvX d te σ H R := fun H1 x dd Q q => h H1 x H1 (Ex.refl H1) _ fun H2 e2 => q v H2 (.of e2) (dd.mono e2) (hr H2 (x.trans (.of e2)))
theorem ex_er {R : V → Hp → Prop} (h : ∀ H1, XD d H H1 → EvR te σ H1 R) : EvX d te σ H R := fun H1 x dd Q q => h H1 x H1 (Ex.refl H1) _ fun v H2 e2 r => q v H2 (.of e2) (dd.mono e2) r
theorem ex_dice {f : Addr → List V → Hp → (V → Hp → Prop) → Prop} {R : V → Hp → Prop} {ws : List V} (h : ∀ H1, XD d H H1 → EvA ta σ H1 (.ref d :: ws)) (hf : ∀ H1, XD d H H1 → f d ws H1 R) : EvX d (tCall (spDice f) [] E0 ta) σ H R := fun H1 x dd Q q =>
  v_dice (h H1 x) dd (fun H2 e2 => hf H2 (x.trans (.of e2))) fun v H2 x2 d2 r => q v H2 x2 d2 r
theorem eax_nil {R : List V → Hp → Prop} (h : ∀ H1, XD d H H1 → R [] H1) : EaX d tNil σ H R := fun H1 x dd Q q => q [] H1 (XD.refl d H1) dd (h H1 x)
theorem eax_cons {R1 : V → Hp → Prop} {R : List V → Hp → Prop} (h : EvX d te σ H R1) (hr : ∀ v H1, XD d H H1 → R1 v H1 → EaX d tr σ H1 fun vs H2 => R (v :: vs) H2) : EaX d (tCons te tr) σ H R := fun H1 x dd Q q =>
  h H1 x dd _ fun v H2 x2 d2 r => hr v H2 (x.trans x2) r H2 (XD.refl d H2) d2 _ fun vs H3 x3 d3 r3 => q _ H3 (x2.trans x3) d3 r3
end
/-- the tuples stay -/
def TpX (H H' : Hp) : Prop := ∀ a xs, H a = some (.tup xs) → H' a = some (.tup xs)
theorem TpX.trans {H H1 H2 : Hp} (a : TpX H H1) (b : TpX H1 H2) : TpX H H2 := fun c xs h => b c xs (a c xs h)
theorem TpX.of {H H' : Hp} (e : Ex H H') : TpX H H' := fun a xs h => e a _ h
theorem TpX.ofI {H H' : Hp} (e : ExI H H') : TpX H H' := fun a xs h => e a _ h fun ys z => by cases z
theorem TpX.ofD {d : Addr} {H H' : Hp} (x : XD d H H') (dd : DiceH H d) : TpX H H' := fun a xs h => x a _ (fun z => by
  obtain ⟨_, _, _, hd⟩ := dd
  rw [z, hd] at h
  cases h) h
theorem TupAt.monoX {H H' : Hp} {v : V} {xs : List V} (e : TpX H H') (h : TupAt H v xs) : TupAt H' v xs := by
  obtain ⟨a, h1, h2⟩ := h
  exact ⟨a, h1, e _ _ h2⟩
theorem ItAt.monoX {H H' : Hp} {v : V} {it : It} (e : TpX H H') (h : ItAt GTup H v it) : ItAt GTup H' v it := by
  cases h with
  | box h => exact .box (e _ _ h)
  | glue h q =>
    obtain ⟨g, h1, h2⟩ := q
    exact .glue (e _ _ h) ⟨g, h1, e _ _ h2⟩
  | part h => exact .part (e _ _ h)
  | pen h => exact .pen (e _ _ h)
theorem XD.mut {d l : Addr} {H H1 : Hp} {o : HO} (x : XD d H H1) (h : H l = none) : XD d H (L2.upd H1 l o) := fun a u n e => by
  have ne : a ≠ l := fun z => by
    rw [z, h] at e
    cases e
  rw [upd_ne ne]
  exact x a u n e
theorem DiceH.other {d l : Addr} {H : Hp} {o : HO} (dd : DiceH H d) (n : l ≠ d) : DiceH (L2.upd H l o) d := by
  obtain ⟨a, b, c, h⟩ := dd
  exact ⟨a, b, c, by rw [upd_ne (Ne.symm n)]; exact h⟩
section
variable {d : Addr} {σ : L2.St} {H : Hp} {te tb ta' : TE} {ta tr : TA} {v : V} {D : Ends} {tz : TS} {K : PySem.W.Frag}
theorem ex_tup {R : List V → Hp → Prop} (h : EaX d ta σ H R) (hm : ∀ vs H1 H2, TpX H1 H2 → R vs H1 → vs.length ≤ 100000 ∧ R vs H2) : EvX d (tTup ta) σ H fun v H' => ∃ vs, TupAt H' v vs ∧ R vs H' := fun H1 x dd Q q =>
  h H1 x dd _ fun vs H2 x2 d2 r => ⟨sz_of (hm vs H2 H2 (fun _ _ h => h) r).1, fun p hp => q _ _ (x2.trans (.of (Ex.new hp))) (d2.mono (Ex.new hp)) ⟨vs, ⟨p, rfl, upd_same⟩, (hm vs H2 _ (.of (Ex.new hp)) r).2⟩⟩
theorem x_asg {i : Nat} {R : V → Hp → Prop} (dd : DiceH H d) (h : EvX d te σ H R) (k : ∀ v H1, XD d H H1 → DiceH H1 d → R v H1 → tz D (σ.set i (some v)) H1) : tSeq (tAsg te (gName i)) tz D σ H := h H (XD.refl d H) dd _ k
theorem x_par {i j : Nat} {R : List V → Hp → Prop} (dd : DiceH H d) (h : EaX d ta σ H R) (k : ∀ vs H1, XD d H H1 → DiceH H1 d → R vs H1 → ∃ v w, vs = [v, w] ∧ tz D ((σ.set i (some v)).set j (some w)) H1) : tSeq (tPar i j ta) tz D σ H := h H (XD.refl d H) dd _ k
theorem ex_opr {r : R2} {x : V} {R1 R : V → Hp → Prop} (ha : ∀ H1, Ev ta' σ H1 x) (hb : EvX d tb σ H R1) (hr : ∀ v H1, R1 v H1 → ∃ z, RV r x v H1 z ∧ ∀ H2, Ex H1 H2 → R z H2) : EvX d (tOp r ta' tb) σ H R := fun H1 x1 d1 Q q =>
  ha H1 H1 (Ex.refl H1) _ fun H2 e2 => hb H2 (x1.trans (.of e2)) (d1.mono e2) _ fun v H3 x3 d3 r3 => by
    obtain ⟨z, h1, h2⟩ := hr v H3 r3
    exact h1 H3 (Ex.refl H3) Q fun H4 e4 => q z H4 (((XD.of e2).trans x3).trans (.of e4)) (d3.mono e4) (h2 H4 e4)
theorem x_forR1 {j : Nat} {tu : TS} {R : Int → Prop} (dd : DiceH H d) (h : EaX d ta σ H fun vs _ => ∃ n : Int, vs = [.int n] ∧ R n) (k : ∀ (n : Int) H1, XD d H H1 → DiceH H1 d → R n → (0 ≤ n ∧ n ≤ 100000) ∧ ∃ Pv : Nat → L2.St → Hp → Prop, Pv 0 σ H1 ∧
    (∀ (i : Nat) σ' H', (i : Int) < n → Pv i σ' H' → tu { D with nx := Pv (i + 1), ct := Pv (i + 1), bk := tz D } (σ'.set j (some (.int (i : Int)))) H') ∧ ∀ σ' H', Pv n.toNat σ' H' → tz D σ' H') : tSeq (tFor (iRng1 ta) (gName j) tu) tz D σ H :=
  h H (XD.refl d H) dd _ fun vs H1 x1 d1 ⟨n, hv, r⟩ => by
    obtain ⟨hn, Pv, h0, hs, hd⟩ := k n H1 x1 d1 r
    exact ⟨n, hv, by omega, by omega, for_range (lo := 0) (n := n.toNat) Pv h0 (fun i σ' H' hi p => by
      have e0 : (0 : Int) + (i : Int) = (i : Int) := Int.zero_add _
      show tu { D with nx := Pv (i + 1), ct := Pv (i + 1), bk := tz D } (σ'.set j (some (.int ((0 : Int) + (i : Int))))) H'
      rw [e0]
      exact hs i σ' H' (by omega) p) hd⟩
theorem x_app {l : Addr} {xs : List V} {R : V → Hp → Prop} (dd : DiceH H d) (hl : H l = some (.lst xs)) (hld : l ≠ d) (ho : Ev tb σ H (.ref l)) (h : EvX d te σ H R) (hz : xs.length < 100000) (k : ∀ v H1, XD d H H1 → DiceH H1 d → R v H1 → D.nx σ (upd H1 l (.lst (xs ++ [v])))) :
    tDrop (tBM K "list" rAppend tb (tCons te tNil)) D σ H := ho H (Ex.refl H) _ fun H1 e1 =>
  ⟨Or.inl ⟨rfl, xs, sq_of (e1 l _ hl)⟩, h H1 (.of e1) (dd.mono e1) _ fun v H2 x2 d2 r => ⟨l, xs, v, rfl, rfl, x2 l _ hld (e1 l _ hl), sz_lt hz, k v H2 ((XD.of e1).trans x2) d2 r⟩⟩
end
theorem XD.back {d p : Addr} {H H' : Hp} (x : XD d H H') (dd : DiceH H' d) (h : H' p = none) : H p = none := by
  cases e : H p with
  | none => rfl
  | some o =>
    by_cases n : p = d
    · obtain ⟨_, _, _, hd⟩ := dd
      rw [n, hd] at h
      cases h
    · rw [x p o n e] at h
      cases h
section
variable {d : Addr} {σ : L2.St} {H : Hp} {te tb ta' : TE} {ta tr : TA} {v : V} {K : PySem.W.Frag}
theorem ex_diceR {f : Addr → List V → Hp → (V → Hp → Prop) → Prop} {R : V → Hp → Prop} {R0 : List V → Hp → Prop} (h : ∀ H1, XD d H H1 → DiceH H1 d → EvAR ta σ H1 R0) (hf : ∀ vs H1, XD d H H1 → DiceH H1 d → R0 vs H1 → ∃ ws, vs = .ref d :: ws ∧ f d ws H1 R) : EvX d (tCall (spDice f) [] E0 ta) σ H R := fun H1 x dd Q q =>
  h H1 x dd H1 (Ex.refl H1) _ fun vs H2 e2 r => by
    obtain ⟨ws, rfl, h3⟩ := hf vs H2 (x.trans (.of e2)) (dd.mono e2) r
    exact ⟨d, ws, R, by rw [List.append_nil], dd.mono e2, h3, fun v H3 x3 d3 r3 => q v H3 ((XD.of e2).trans x3) d3 r3⟩
theorem ex_pick {ns : List Int} (h0 : σ[0]? = some (some (.ref d))) (hl : ∀ H1, EvA ta σ H1 (ns.map V.int)) (hn : 0 < ns.length ∧ ns.length < 1000) : EvX d (tCall (spDice fPick) [] E0 (tCons (tVar 0) (tCons (tLst ta) tNil))) σ H fun v _ => ∃ i ∈ ns, v = .int i :=
  ex_diceR (R0 := fun vs H' => ∃ l, vs = [.ref d, .ref l] ∧ l ≠ d ∧ H' l = some (.lst (ns.map V.int))) (fun H1 x dd => ear_ev (ev_var h0) fun H2 e2 => ear_cons (lst_er (el_lst (hl H2) (by rw [List.length_map]; omega))) fun v H3 e3 ⟨l, hv, hl0, hl3⟩ => ear_nil fun H4 e4 => ⟨l, by rw [hv], (fun z => by
      obtain ⟨_, _, _, hd⟩ := dd.mono e2
      rw [z, hd] at hl0
      cases hl0), e4 _ _ hl3⟩) fun vs H1 x dd ⟨l, h1, h2, h3⟩ => ⟨[.ref l], h1, l, ns, rfl, h3, h2, hn, rfl⟩
theorem er_catR {a : Addr} {xs : List V} {R : List V → Hp → Prop} (h : Ev ta' σ H (.ref a)) (ha : H a = some (.lst xs)) (h2 : EvR tb σ H fun v H' => ∃ vs, LstAt H' v vs ∧ R vs H') (hz : ∀ vs H', R vs H' → xs.length + vs.length ≤ 100000) (hm : ∀ vs H1 H2, Ex H1 H2 → R vs H1 → R vs H2) : EvR (tOp rCat ta' tb) σ H fun v H' => ∃ p vs, v = .ref p ∧ H p = none ∧ H' p = some (.lst (xs ++ vs)) ∧ R vs H' := fun H1 e Q q =>
  h H1 e _ fun H2 e2 => h2 H2 (e.trans e2) _ fun v H3 e3 ⟨vs, ⟨b, hv, hb⟩, r⟩ => ⟨a, b, xs, vs, rfl, hv, e3 _ _ (e2 _ _ (e _ _ ha)), hb, sz_of (hz vs H3 r), fun p hp => q _ _ ((e2.trans e3).trans (Ex.new hp)) ⟨p, vs, rfl, fresh_back ((e.trans e2).trans e3) hp, upd_same, hm _ _ _ (Ex.new hp) r⟩⟩
end
section
variable {P : Program} {w : World} {K : PySem.W.Frag} {mg : Str → Option Value} {base : Heap} {cG cR cL aF cC Pt : Addr}
def It.Ok : It → Prop
  | .glue n s o k => (It.glue n s o k).Bd ∧ (s = 0 → o = 0)
  | it => it.Bd
theorem It.Ok.bd {it : It} (h : it.Ok) : it.Bd := by
  cases it with
  | glue n s o k => exact h.1
  | box w => exact h
  | part a b c => exact h
  | pen p => exact h
structure MRow (r : Row) : Prop where
  ok : RowOk r
  two : 2 ≤ r.length
  len : r.length ≤ 9
  its : ∀ x ∈ r, x.Ok
abbrev fUw : Addr → List V → Hp → (V → Hp → Prop) → Prop := fun _ vs _ R => ∃ n : Int, vs = [.int n] ∧ (0 ≤ n ∧ n < 900) ∧ R = fun v _ => ∃ i : Int, v = .int i ∧ 0 ≤ i ∧ i ≤ n
abbrev st_law_measured : Stmt := top 79
def nm_law_measured : List Str := ["_law_dice_here", "_law_most", "_law_found", "_law_turn", "_law_way", "_law_order", "_law_stretch", "_law_glue"]
theorem sc_law_measured : FnScope nm_law_measured ["_law_dice_here", "_law_most"] (defScope st_law_measured) := ⟨rfl, rfl, rfl, by decide +kernel, rfl, by decide +kernel, by decide +kernel⟩
def fMeas : Addr → List V → Hp → (V → Hp → Prop) → Prop := fun d vs H R => vs = [.int 9] ∧ R = fun v H2 => ∃ l ws r, v = .ref l ∧ l ≠ d ∧ H2 l = some (.lst ws) ∧ ItsAt GTup H2 ws r ∧ MRow r
theorem ok_law_measured (T : Tx K mg cG cR cL aF) (D : DefAt K mg "_law_measured" "_law_measured" "_law_measured" st_law_measured) (c_law_roll : Cal P w K mg base "_law_roll" ["_law_dice_here", "_law_total"] 1 (spDice fRoll)) (c_law_pick : Cal P w K mg base "_law_pick" ["_law_dice_here", "_law_items"] 2 (spDice fPick))
    (c_law_units_wide : Cal P w K mg base "_law_units_wide" ["_law_dice_here", "_law_most"] 2 (spDice fUw)) : Cal P w K mg base "_law_measured" ["_law_dice_here", "_law_most"] 3 (spDice fMeas) := by
  refine cal_of D sc_law_measured (fun _ _ _ _ _ _ us hl => match us, hl with | [_, _], _ => rfl) (fun vs H Q E h => ?_) (fun f cdv A outer s H vs Q E hr h => ?_)
  · obtain ⟨d, ws, R, rfl, _, ⟨rfl, _⟩, _⟩ := h
    rfl
  · obtain ⟨d, ws, R, rfl, hdd, ⟨rfl, rfl⟩, k⟩ := h
    refine ⟨_, (pss_cons (ps_set (i := 2) sc_law_measured.nd rfl (Or.inl rfl) (pe_lst pa_nil))
      (pss_cons (ps_for PassesOwn.never rfl (pi_range1 rfl T.range_ (pa_cons (pe_op op_add pe_int (pe_cal c_law_roll (hr.mono (by decide)) (pa_cons (pv 0) (pa_cons (pe_op op_sub (pv 1) pe_int) pa_nil)))) pa_nil)) (pg_name (i := 3) sc_law_measured.nd rfl (Or.inl rfl)) (pss_cons (ps_set (i := 4) sc_law_measured.nd rfl (Or.inl rfl) (pe_cal c_law_roll (hr.mono (by decide)) (pa_cons (pv 0) (pa_cons pe_int pa_nil))))
      (pss_one (ps_if (pt_cmpR op_lt (pv 4) pe_int (nomark _)) (pss_one (ps_expr (pe_bm PySem.F.plainAttrs_list PySem.F.slot_list_append PySem.F.type_list_append mt_append (pv 2) (pa_cons (pe_tup (pa_cons pe_str (pa_cons (pe_cal c_law_units_wide (hr.mono (by decide)) (pa_cons (pv 0) (pa_cons pe_int pa_nil))) pa_nil))) pa_nil)))) (pss_one (ps_if (pt_cmpR op_lt (pv 4) pe_int (nomark _)) (pss_cons (ps_par (i := 5) (j := 6) (by rfl) sc_law_measured.nd rfl rfl (by decide) rfl rfl (pa_cons (pe_cal c_law_pick (hr.mono (by decide)) (pa_cons (pv 0) (pa_cons (pe_lst (pa_cons pe_int (pa_cons pe_int (pa_cons pe_int (pa_cons pe_int (pa_cons pe_int (pa_cons pe_int pa_nil))))))) pa_nil))) (pa_cons (pe_cal c_law_units_wide (hr.mono (by decide)) (pa_cons (pv 0) (pa_cons pe_int pa_nil))) pa_nil)) (by rfl))
      (pss_cons (ps_set (i := 7) sc_law_measured.nd rfl (Or.inl rfl) (pe_tup (pa_cons (pe_cal c_law_units_wide (hr.mono (by decide)) (pa_cons (pv 0) (pa_cons pe_int pa_nil))) (pa_cons (pv 6) (pa_cons (pe_ifExp (pt_cmpR op_gt (pv 6) pe_int (nomark _)) (pv 5) pe_int) (pa_cons (pe_cal c_law_units_wide (hr.mono (by decide)) (pa_cons (pv 0) (pa_cons pe_int pa_nil))) pa_nil))))))
      (pss_one (ps_expr (pe_bm PySem.F.plainAttrs_list PySem.F.slot_list_append PySem.F.type_list_append mt_append (pv 2) (pa_cons (pe_tup (pa_cons pe_str (pa_cons (pv 7) pa_nil))) pa_nil)))))) (pss_one (ps_if (pt_cmpR op_lt (pv 4) pe_int (nomark _)) (pss_one (ps_expr (pe_bm PySem.F.plainAttrs_list PySem.F.slot_list_append PySem.F.type_list_append mt_append (pv 2) (pa_cons (pe_tup (pa_cons pe_str (pa_cons (pe_cal c_law_units_wide (hr.mono (by decide)) (pa_cons (pv 0) (pa_cons pe_int pa_nil))) (pa_cons (pe_cal c_law_units_wide (hr.mono (by decide)) (pa_cons (pv 0) (pa_cons pe_int pa_nil))) (pa_cons (pe_cal c_law_units_wide (hr.mono (by decide)) (pa_cons (pv 0) (pa_cons pe_int pa_nil))) pa_nil))))) pa_nil)))) (pss_one (ps_expr (pe_bm PySem.F.plainAttrs_list PySem.F.slot_list_append PySem.F.type_list_append mt_append (pv 2) (pa_cons (pe_tup (pa_cons pe_str (pa_cons (pe_cal c_law_pick (hr.mono (by decide)) (pa_cons (pv 0) (pa_cons (pe_lst (pa_cons (pe_un un_neg pe_int) (pa_cons (pe_un un_neg pe_int) (pa_cons (pe_un un_neg pe_int) (pa_cons pe_int (pa_cons pe_int (pa_cons pe_int (pa_cons pe_int (pa_cons pe_int (pa_cons pe_int pa_nil)))))))))) pa_nil))) pa_nil))) pa_nil))))))))))))
      (pss_one (ps_ret (pe_op op_cat (pv 2) (pe_lst (pa_cons (pe_tup (pa_cons pe_str (pa_cons (pe_un un_neg pe_int) pa_nil))) pa_nil))))))), ?_⟩
    refine q_asgL (el_lst ea_nil (by show 0 ≤ 100000; decide)) fun l H1 hl0 e1 hl1 => ?_
    have nld : l ≠ d := fun z => by
      obtain ⟨_, _, _, hd⟩ := hdd
      rw [z, hd] at hl0
      cases hl0
    refine x_forR1 (d := d) (R := fun n => 1 ≤ n ∧ n ≤ 8) (hdd.mono e1) (eax_cons (R1 := fun v _ => ∃ i : Int, v = .int i ∧ 1 ≤ i ∧ i ≤ 8) (ex_opr (R1 := fun v _ => ∃ i : Int, v = .int i ∧ 0 ≤ i ∧ i < 8) (fun _ => ev_c) (ex_dice (fun H2 x2 => ea_cons (ev_var rfl) (ea_cons (ev_op (ev_var rfl) ev_c rv_I0) ea_nil)) fun H2 x2 => ⟨8, rfl, ⟨by decide, by decide⟩, rfl⟩) fun v H2 ⟨i, hv, h1, h2⟩ => ⟨.int (1 + i), by rw [hv]; exact rv_I0, fun _ _ => ⟨1 + i, rfl, by omega, by omega⟩⟩) fun v H2 x2 ⟨i, hv, h1⟩ => eax_nil fun H3 x3 => ⟨i, by rw [hv], h1⟩) fun n H2 x2 d2 hn => ⟨by omega, fun i σ' H' => ∃ o3 o4 o5 o6 o7 ws its, σ' = [some (.ref d), some (.int 9), some (.ref l), o3, o4, o5, o6, o7] ∧ XD d H H' ∧ DiceH H' d ∧ H' l = some (.lst ws) ∧ ItsAt GTup H' ws its ∧ its.length = i ∧ ∀ x ∈ its, It.Ok x, ?_, ?_, ?_⟩
    · exact ⟨_, _, _, _, _, [], [], rfl, (XD.of e1).trans x2, d2, x2 _ _ nld hl1, .nil, rfl, fun x h => (List.not_mem_nil h).elim⟩
    · rintro i σ' H3 hi ⟨o3, o4, o5, o6, o7, ws, its, rfl, x3, d3, hl3, hits, hlen, hok⟩
      have hwl := paired_len hits
      have fin : ∀ (v : V) (it : It) (wv o5 o6 o7 : Option V) (H5 : Hp), XD d H3 H5 → DiceH H5 d → ItAt GTup H5 v it → It.Ok it → ∃ o3 o4 o5' o6' o7' ws' its', [some (.ref d), some (.int 9), some (.ref l), some (.int (i : Int)), wv, o5, o6, o7] = [some (V.ref d), some (.int 9), some (.ref l), o3, o4, o5', o6', o7'] ∧ XD d H (upd H5 l (.lst (ws ++ [v]))) ∧ DiceH (upd H5 l (.lst (ws ++ [v]))) d ∧ upd H5 l (.lst (ws ++ [v])) l = some (.lst ws') ∧ ItsAt GTup (upd H5 l (.lst (ws ++ [v]))) ws' its' ∧ its'.length = i + 1 ∧ ∀ x ∈ its', It.Ok x := fun v it wv o5 o6 o7 H5 x5 d5 hv ho => by
        have t1 : TpX H3 H5 := .ofD x5 d3
        have t2 : TpX H5 (upd H5 l (.lst (ws ++ [v]))) := .ofI (ExI.lst (x5 _ _ nld hl3))
        refine ⟨_, _, _, _, _, ws ++ [v], its ++ [it], rfl, XD.mut (x3.trans x5) hl0, d5.other nld, upd_same, paired_add (Paired.mapP hits fun _ _ q => ItAt.monoX (t1.trans t2) q) (hv.monoX t2), by rw [List.length_append, hlen]; rfl, fun x hx => ?_⟩
        rcases List.mem_append.mp hx with h | h
        · exact hok x h
        · rw [List.mem_singleton.mp h]
          exact ho
      have uw : ∀ {H5 : Hp} {σ : L2.St} (n : Int), 0 ≤ n ∧ n < 900 → σ[0]? = some (some (.ref d)) → EvX d (tCall (spDice fUw) [] E0 (tCons (tVar 0) (tCons (tC (.int n)) tNil))) σ H5 (fun v _ => ∃ i : Int, v = .int i ∧ 0 ≤ i ∧ i ≤ n) := fun {H5 σ} n hn h0 => ex_dice (fun H2 x2 => ea_cons (ev_var h0) (ea_cons ev_c ea_nil)) fun H2 x2 => ⟨n, rfl, hn, rfl⟩
      have hws : ws.length < 100000 := by omega
      refine x_asg d3 (ex_dice (R := fun v _ => ∃ i : Int, v = .int i ∧ 0 ≤ i ∧ i < 10) (fun H2 x2 => ea_cons (ev_var rfl) (ea_cons ev_c ea_nil)) fun H2 x2 => ⟨10, rfl, ⟨by decide, by decide⟩, rfl⟩) fun v H4 x4 d4 ⟨wy, hv, hwy⟩ => ?_
      rw [hv]
      have hl4 := x4 _ _ nld hl3
      refine s_if (b := decide (wy < 4)) (et_test (ev_op (ev_var rfl) ev_c rv_I0)) (fun _ H5 e5 => ?_) fun _ H5 e5 => ?_
      · refine x_app (d4.mono e5) (e5 _ _ hl4) nld (ev_var rfl) (ex_tup (R := fun vs _ => ∃ a : Int, vs = [.str "box", .int a] ∧ 0 ≤ a ∧ a ≤ 24) (eax_cons (R1 := fun v _ => v = .str "box") (ex_ev (fun _ _ => ev_c) fun _ _ => rfl) fun v H6 x6 hv6 => eax_cons (uw 24 ⟨by decide, by decide⟩ rfl) fun v7 H7 x7 ⟨a, ha, hb⟩ => eax_nil fun H8 x8 => ⟨a, by rw [hv6, ha], hb⟩) fun vs H1 H2 _ ⟨a, h1, h2⟩ => ⟨by rw [h1]; show 2 ≤ 100000; decide, a, h1, h2⟩) hws fun v H6 x6 d6 hv6 => ?_
        obtain ⟨_, ⟨p, rfl, hp⟩, a, rfl, hb⟩ := hv6
        exact fin _ (.box a) _ _ _ _ H6 (x4.trans ((XD.of e5).trans x6)) d6 (.box hp) ⟨hb.1, by omega⟩
      · refine s_if (b := decide (wy < 7)) (et_test (ev_op (ev_var rfl) ev_c rv_I0)) (fun _ H6 e6 => ?_) fun _ H6 e6 => ?_
        · have x6 : XD d H3 H6 := x4.trans (.of (e5.trans e6))
          refine x_par (d := d) (R := fun vs _ => ∃ o s : Int, vs = [.int o, .int s] ∧ (0 ≤ o ∧ o ≤ 2) ∧ 0 ≤ s ∧ s ≤ 6) (d4.mono (e5.trans e6)) (eax_cons (R1 := fun v _ => ∃ i ∈ ([0, 0, 0, 0, 1, 2] : List Int), v = .int i) (ex_pick rfl (fun H1 => ea_cons ev_c (ea_cons ev_c (ea_cons ev_c (ea_cons ev_c (ea_cons ev_c (ea_cons ev_c ea_nil)))))) ⟨by decide, by decide⟩) fun v7 H7 x7 ⟨o, ho, hv7⟩ => eax_cons (uw 6 ⟨by decide, by decide⟩ rfl) fun v8 H8 x8 ⟨s, hv8, hs⟩ => eax_nil fun H9 x9 => ⟨o, s, by rw [hv7, hv8], by
            simp only [List.mem_cons, List.not_mem_nil, or_false] at ho
            omega, hs⟩) fun vs H7 x7 d7 hvs => ?_
          obtain ⟨o, s, rfl, ho, hs⟩ := hvs
          refine ⟨_, _, rfl, ?_⟩
          refine x_asg (d := d) d7 (ex_tup (R := fun vs _ => ∃ n k : Int, vs = [.int n, .int s, .int (if 0 < s then o else 0), .int k] ∧ (0 ≤ n ∧ n ≤ 9) ∧ 0 ≤ k ∧ k ≤ 4) (eax_cons (uw 9 ⟨by decide, by decide⟩ rfl) fun v8 H8 x8 ⟨n, hv8, hn⟩ => eax_cons (R1 := fun v _ => v = .int s) (ex_ev (fun _ _ => ev_var rfl) fun _ _ => rfl) fun v9 H9 x9 hv9 => eax_cons (R1 := fun v _ => v = .int (if 0 < s then o else 0)) (ex_ev (fun _ _ => ev_ifI (et_test (ev_op (ev_var rfl) ev_c rv_I0)) (fun _ => ev_var rfl) fun _ => ev_c) fun _ _ => rfl) fun v10 H10 x10 hv10 => eax_cons (uw 4 ⟨by decide, by decide⟩ rfl) fun v11 H11 x11 ⟨k, hv11, hk⟩ => eax_nil fun H12 x12 => ⟨n, k, by rw [hv8, hv9, hv10, hv11], hn, hk⟩) fun vs H1 H2 _ ⟨n, k, h1, h2⟩ => ⟨by rw [h1]; show 4 ≤ 100000; decide, n, k, h1, h2⟩) fun v H8 x8 d8 hv8 => ?_
          obtain ⟨_, ⟨g, rfl, hg⟩, n, k', rfl, hn, hk⟩ := hv8
          have gd : g ≠ d := fun z => by
            obtain ⟨_, _, _, hd⟩ := d8
            rw [z, hd] at hg
            cases hg
          refine x_app d8 (x8 _ _ nld (x7 _ _ nld (e6 _ _ (e5 _ _ hl4)))) nld (ev_var rfl) (ex_tup (R := fun vs H' => vs = [.str "glue", .ref g] ∧ H' g = some (.tup [.int n, .int s, .int (if 0 < s then o else 0), .int k'])) (eax_cons (R1 := fun v _ => v = .str "glue") (ex_ev (fun _ _ => ev_c) fun _ _ => rfl) fun v9 H9 x9 hv9 => eax_cons (R1 := fun v _ => v = .ref g) (ex_ev (fun _ _ => ev_var rfl) fun _ _ => rfl) fun v10 H10 x10 hv10 => eax_nil fun H11 x11 => ⟨by rw [hv9, hv10], x11 _ _ gd (x10 _ _ gd (x9 _ _ gd hg))⟩) fun vs H1 H2 t ⟨h1, h2⟩ => ⟨by rw [h1]; show 2 ≤ 100000; decide, h1, t _ _ h2⟩) hws fun v H9 x9 d9 hv9 => ?_
          obtain ⟨_, ⟨p, rfl, hp⟩, rfl, hg9⟩ := hv9
          refine fin _ (.glue n s (if 0 < s then o else 0) k') _ _ _ _ H9 ((x6.trans x7).trans (x8.trans x9)) d9 (.glue hp ⟨g, rfl, hg9⟩) ⟨⟨?_, ?_, ?_, ?_⟩, fun h => ?_⟩
          · omega
          · omega
          · split <;> omega
          · omega
          · rw [if_neg (by omega)]
        · refine s_if (b := decide (wy < 9)) (et_test (ev_op (ev_var rfl) ev_c rv_I0)) (fun _ H7 e7 => ?_) fun _ H7 e7 => ?_
          · have x7 : XD d H3 H7 := x4.trans (.of ((e5.trans e6).trans e7))
            refine x_app (d4.mono ((e5.trans e6).trans e7)) (e7 _ _ (e6 _ _ (e5 _ _ hl4))) nld (ev_var rfl) (ex_tup (R := fun vs _ => ∃ a b c : Int, vs = [.str "part", .int a, .int b, .int c] ∧ (0 ≤ a ∧ a ≤ 3) ∧ (0 ≤ b ∧ b ≤ 3) ∧ 0 ≤ c ∧ c ≤ 5) (eax_cons (R1 := fun v _ => v = .str "part") (ex_ev (fun _ _ => ev_c) fun _ _ => rfl) fun v H6 x6 hv6 => eax_cons (uw 3 ⟨by decide, by decide⟩ rfl) fun v7 H7 x7 ⟨a, ha, h2a⟩ => eax_cons (uw 3 ⟨by decide, by decide⟩ rfl) fun v8 H8 x8 ⟨b, hb, h2b⟩ => eax_cons (uw 5 ⟨by decide, by decide⟩ rfl) fun v9 H9 x9 ⟨c, hc, h2c⟩ => eax_nil fun H10 x10 => ⟨a, b, c, by rw [hv6, ha, hb, hc], h2a, h2b, h2c⟩) fun vs H1 H2 _ ⟨a, b, c, h1, h2⟩ => ⟨by rw [h1]; show 4 ≤ 100000; decide, a, b, c, h1, h2⟩) hws fun v H8 x8 d8 hv8 => ?_
            obtain ⟨_, ⟨p, rfl, hp⟩, a, b, c, rfl, h2a, h2b, h2c⟩ := hv8
            exact fin _ (.part a b c) _ _ _ _ H8 (x7.trans x8) d8 (.part hp) ⟨⟨h2a.1, by omega⟩, ⟨h2b.1, by omega⟩, h2c.1, by omega⟩
          · have x7 : XD d H3 H7 := x4.trans (.of ((e5.trans e6).trans e7))
            refine x_app (d4.mono ((e5.trans e6).trans e7)) (e7 _ _ (e6 _ _ (e5 _ _ hl4))) nld (ev_var rfl) (ex_tup (R := fun vs _ => ∃ a : Int, vs = [.str "penalty", .int a] ∧ -10000 ≤ a ∧ a ≤ 10000) (eax_cons (R1 := fun v _ => v = .str "penalty") (ex_ev (fun _ _ => ev_c) fun _ _ => rfl) fun v H6 x6 hv6 => eax_cons (R1 := fun v _ => ∃ i ∈ ([-10000, -200, -50, 0, 30, 500, 9999, 10000, 10000] : List Int), v = .int i) (ex_pick rfl (fun H1 => ea_cons (ev_un ev_c ru_neg) (ea_cons (ev_un ev_c ru_neg) (ea_cons (ev_un ev_c ru_neg) (ea_cons ev_c (ea_cons ev_c (ea_cons ev_c (ea_cons ev_c (ea_cons ev_c (ea_cons ev_c ea_nil))))))))) ⟨by decide, by decide⟩) fun v7 H7 x7 ⟨o, ho, hv7⟩ => eax_nil fun H8 x8 => ⟨o, by rw [hv6, hv7], by
              simp only [List.mem_cons, List.not_mem_nil, or_false] at ho
              omega⟩) fun vs H1 H2 _ ⟨a, h1, h2⟩ => ⟨by rw [h1]; show 2 ≤ 100000; decide, a, h1, h2⟩) hws fun v H8 x8 d8 hv8 => ?_
            obtain ⟨_, ⟨p, rfl, hp⟩, a, rfl, h2a⟩ := hv8
            exact fin _ (.pen a) _ _ _ _ H8 (x7.trans x8) d8 (.pen hp) h2a
    · rintro σ' H3 ⟨o3, o4, o5, o6, o7, ws, its, rfl, x3, d3, hl3, hits, hlen, hok⟩
      have hwl := paired_len hits
      refine s_retR (er_catR (R := fun vs H' => ∃ v, vs = [v] ∧ TupAt H' v [.str "penalty", .int (-10000)]) (ev_var rfl) hl3 (er_lstR (R := fun vs H' => ∃ v, vs = [v] ∧ TupAt H' v [.str "penalty", .int (-10000)]) (ear_cons (er_tup (ea_cons ev_c (ea_cons (ev_un ev_c ru_neg) ea_nil)) (by show 2 ≤ 100000; decide)) fun v H4 e4 h4 => ear_nil fun H5 e5 => ⟨v, rfl, h4.mono e5⟩) fun vs H1 H2 e ⟨v, h1, h2⟩ => ⟨by rw [h1]; show 1 ≤ 100000; decide, v, h1, h2.mono e⟩) (fun vs H' ⟨v, h1, _⟩ => by rw [h1]; show ws.length + 1 ≤ 100000; omega) fun vs H1 H2 e ⟨v, h1, h2⟩ => ⟨v, h1, h2.mono e⟩) fun v H4 e4 ⟨p, vs, hv, hp0, hp4, w0, hvs, ⟨q0, hq, hq4⟩⟩ => k v H4 (x3.trans (.of e4)) (d3.mono e4) ⟨p, ws ++ [w0], its ++ [.pen (-10000)], hv, (fun z => by
        obtain ⟨_, _, _, hd⟩ := d3
        rw [z, hd] at hp0
        cases hp0), by rw [hp4, hvs], paired_add (Paired.mapP hits fun _ _ q => q.mono gTup_mono e4) (by rw [hq]; exact .pen hq4), ⟨⟨?_, ?_⟩, ?_, ?_, fun x hx => ?_⟩⟩
      · rw [List.length_append]
        show 0 < its.length + 1
        omega
      · rw [List.length_append]
        show (at_ (its ++ [.pen (-10000)]) (its.length + 1 - 1)).forced = true
        unfold at_
        rw [List.getD_eq_getElem?_getD, Nat.add_sub_cancel, List.getElem?_append_right (Nat.le_refl _), Nat.sub_self]
        rfl
      · rw [List.length_append]
        show 2 ≤ its.length + 1
        omega
      · rw [List.length_append]
        show its.length + 1 ≤ 9
        omega
      · rcases List.mem_append.mp hx with h | h
        · exact hok x h
        · rw [List.mem_singleton.mp h]
          exact ⟨by decide, by decide⟩
end
end K51
set_option Elab.async false
set_option linter.all false
set_option maxRecDepth 100000
set_option maxHeartbeats 4000000
namespace K51
open PySem PySem.Spec PyProof.Rows L2 Evl LamX
section
variable {K : PySem.W.Frag} {σ : L2.St} {H : Hp} {te tb : TE} {ta tk : TA} {D : Ends} {cG cR : Addr}
theorem s_appR {l : Addr} {xs : List V} {R : V → Hp → Prop} (hl : H l = some (.lst xs)) (ho : Ev tb σ H (.ref l)) (h : EvR te σ H R) (hz : xs.length < 100000) (k : ∀ v H1, Ex H H1 → R v H1 → D.nx σ (upd H1 l (.lst (xs ++ [v])))) : tDrop (tBM K "list" rAppend tb (tCons te tNil)) D σ H := ho H (Ex.refl H) _ fun H1 e1 =>
  ⟨Or.inl ⟨rfl, xs, sq_of (e1 l _ hl)⟩, h H1 e1 _ fun v H2 e2 r => ⟨l, xs, v, rfl, rfl, e2 l _ (e1 l _ hl), sz_lt hz, k v H2 (e1.trans e2) r⟩⟩
theorem ex_two {x dx : Addr} {o o' : HO} (hx : H x = none) (hd : H dx = none) (hn : dx ≠ x) : Ex H (upd (upd H dx o) x o') := (Ex.new hd).trans (Ex.new (by rw [upd_ne (Ne.symm hn)]; exact hx))
theorem er_glueK {vs zs : List V} {n m : Nat} {gV : List V → List V → List V} {i s o k : Int} (ha : EvA ta σ H vs) (hk : EvA tk σ H zs) (l1 : vs.length = n) (l2 : zs.length = m) (hg : ∀ x, gV (x :: vs) zs = [x, .int i, .int s, .int o, .int k, .int 0]) (hn : -1000 ≤ i ∧ i ≤ 1000) (hs : 0 ≤ s ∧ s ≤ 1000) (ho : 0 ≤ o ∧ o ≤ 3) (hkk : 0 ≤ k ∧ k ≤ 1000) (hso : s = 0 → o = 0) :
    EvR (tMakeK cG n m (sp_glue_init cG) gV E0 ta tk) σ H fun v H' => GSlot cG H' v i s o k := fun H1 e Q q =>
  ha H1 e _ fun H2 e2 => hk H2 (e.trans e2) _ fun H3 e3 => ⟨l1, l2, fun x dx hx hdx hne => ⟨x, dx, i, s, o, k, H3, hg _, hx, hdx, hne, upd_same, ex_two hx hdx hne, hn, hs, ho, hkk, hso, fun H4 e4 g => ⟨rfl, q _ H4 ((e2.trans e3).trans e4) g⟩⟩⟩
theorem GSlot.monoI {H H' : Hp} {v : V} {n s o k : Int} (e : ExI H H') (h : GSlot cG H v n s o k) : GSlot cG H' v n s o k := by
  obtain ⟨g, dx, h1, h2, h3⟩ := h
  exact ⟨g, dx, h1, (e _ _ h2 fun _ z => nomatch z), (e _ _ h3 fun _ z => nomatch z)⟩
theorem ItAt.monoSI {H H' : Hp} {v : V} {it : It} (e : ExI H H') (h : ItAt (GSlot cG) H v it) : ItAt (GSlot cG) H' v it := by
  cases h with
  | box h => exact .box (e _ _ h fun _ z => nomatch z)
  | glue h q => exact .glue (e _ _ h fun _ z => nomatch z) (q.monoI e)
  | part h => exact .part (e _ _ h fun _ z => nomatch z)
  | pen h => exact .pen (e _ _ h fun _ z => nomatch z)
end
section
variable {P : Program} {w : World} {K : PySem.W.Frag} {mg : Str → Option Value} {base : Heap} {cG cR cL aF cC Pt : Addr}
abbrev st_law_row_made : Stmt := top 80
def nm_law_row_made : List Str := ["_law_plain", "_law_found", "_law_item", "_law_natural", "_law_stretch", "_law_order", "_law_shrink"]
theorem sc_law_row_made : FnScope nm_law_row_made ["_law_plain"] (defScope st_law_row_made) := ⟨rfl, rfl, rfl, by decide +kernel, rfl, by decide +kernel, by decide +kernel⟩
abbrev gluePs : List Str := ["self", "natural", "stretch", "stretch_order", "shrink", "shrink_order"]
def sp_law_row_made (cG : Addr) : Sp := spR fun vs H R => ∃ x r, vs = [x] ∧ PlainAt H x r ∧ r.length ≤ 1000 ∧ (∀ it ∈ r, It.Ok it) ∧ R = fun v H2 => RowAt cG H2 v r
theorem ok_law_row_made (T : Tx K mg cG cR cL aF) (M_gA : MkK P w K mg base cG gluePs 4 (sp_glue_init cG) 1 ["stretch", "stretch_order", "shrink"] (fun vs zs => gA vs [.int 0] zs)) (D : DefAt K mg "_law_row_made" "_law_row_made" "_law_row_made" st_law_row_made) : Cal P w K mg base "_law_row_made" ["_law_plain"] 6 (sp_law_row_made cG) := by
  refine cal_of D sc_law_row_made (fun _ _ _ _ _ _ us hl => match us, hl with | [_], _ => rfl) (fun vs H Q E h => ?_) (fun f cdv A outer s H vs Q E hr h => ?_)
  · obtain ⟨R, ⟨x, r, rfl, _⟩, _⟩ := h
    rfl
  · obtain ⟨R, ⟨x, r, rfl, hx, hlen, hok, rfl⟩, k⟩ := h
    refine ⟨_, (pss_cons (ps_set (i := 1) sc_law_row_made.nd rfl (Or.inl rfl) (pe_lst pa_nil))
      (pss_cons (ps_for PassesOwn.never rfl (pi_list (pv 0)) (pg_name (i := 2) sc_law_row_made.nd rfl (Or.inl rfl)) (pss_one (ps_if (pt_cmpR op_eq (pe_ix ix_tup (pv 2) pe_int (fun _ _ => rfl)) pe_str (nomark _)) (pss_cons (ps_asg (pe_ix ix_tup (pv 2) pe_int (fun _ _ => rfl)) (pg_tup rfl (pgs_cons (pg_name (i := 3) sc_law_row_made.nd rfl (Or.inl rfl)) (pgs_cons (pg_name (i := 4) sc_law_row_made.nd rfl (Or.inl rfl)) (pgs_cons (pg_name (i := 5) sc_law_row_made.nd rfl (Or.inl rfl)) (pgs_cons (pg_name (i := 6) sc_law_row_made.nd rfl (Or.inl rfl)) pgs_nil))))))
      (pss_one (ps_expr (pe_bm PySem.F.plainAttrs_list PySem.F.slot_list_append PySem.F.type_list_append mt_append (pv 1) (pa_cons (pe_tup (pa_cons pe_str (pa_cons (pe_mkK M_gA T.g_Glue (hr.mono (by decide)) (pa_cons (pv 3) pa_nil) (pk_cons (pv 4) (pk_cons (pv 5) (pk_cons (pv 6) pk_nil)))) pa_nil))) pa_nil))))) (pss_one (ps_expr (pe_bm PySem.F.plainAttrs_list PySem.F.slot_list_append PySem.F.type_list_append mt_append (pv 1) (pa_cons (pv 2) pa_nil)))))))
      (pss_one (ps_ret (pe_callTy call_tuple_of (by rfl) T.tuple_ (by decide +kernel) (pa_cons (pv 1) pa_nil)))))), ?_⟩
    obtain ⟨a, ws, rfl, ha, hi⟩ := id hx
    have hl := paired_len hi
    refine q_asgL (el_lst ea_nil (by show 0 ≤ 100000; decide)) fun l H1 hl0 e1 hl1 => ?_
    refine q_forL (a := a) (xs := ws) (ev_var rfl) (sq_of (e1 _ _ ha)) (fun i σ' H' => ∃ o2 o3 o4 o5 o6 acc, σ' = [some (.ref a), some (.ref l), o2, o3, o4, o5, o6] ∧ Ex H H' ∧ H' l = some (.lst acc) ∧ ItsAt (GSlot cG) H' acc (r.take i))
      (fun H2 e2 => ⟨_, _, _, _, _, [], rfl, e1.trans e2, e2 _ _ hl1, .nil⟩) (fun i σ' H' _ ⟨_, _, _, _, _, _, _, e, _⟩ => sq_of (e _ _ ha)) ?_ ?_
    · rintro i z σ' H3 hz ⟨o2, o3, o4, o5, o6, acc, rfl, e3, hl3, hp⟩
      have hi2 : i < r.length := by
        have := (List.getElem?_eq_some_iff.mp hz).1
        omega
      have hacc := paired_len hp
      rw [List.length_take] at hacc
      have hy2 : r[i]? = some r[i] := List.getElem?_eq_getElem hi2
      obtain ⟨z', hz', hit⟩ := paired_get hi hy2
      have hsame : z = z' := Option.some.inj (hz.symm.trans hz')
      subst hsame
      have hyo := hok _ (List.getElem_mem hi2)
      have htk : r.take (i + 1) = r.take i ++ [r[i]] := by rw [List.take_succ, hy2]; rfl
      generalize r[i] = y at hy2 hit hyo htk
      have hit := hit.mono gTup_mono e3
      have hz100 : acc.length < 100000 := by omega
      have T3 := tag_glue y
      have fin : ∀ (v : V) (o3 o4 o5 o6 : Option V) (H5 : Hp), Ex H3 H5 → ItAt (GSlot cG) H5 v y → ∃ o2 o3' o4' o5' o6' acc', [some (V.ref a), some (.ref l), some z, o3, o4, o5, o6] = [some (V.ref a), some (.ref l), o2, o3', o4', o5', o6'] ∧ Ex H (upd H5 l (.lst (acc ++ [v]))) ∧ upd H5 l (.lst (acc ++ [v])) l = some (.lst acc') ∧ ItsAt (GSlot cG) (upd H5 l (.lst (acc ++ [v]))) acc' (r.take (i + 1)) := fun v o3 o4 o5 o6 H5 e5 hv => by
        have x5 : ExI H5 (upd H5 l (.lst (acc ++ [v]))) := ExI.lst (e5 _ _ hl3)
        refine ⟨_, _, _, _, _, acc ++ [v], rfl, Ex.mut (e3.trans e5) hl0, upd_same, ?_⟩
        rw [htk]
        exact paired_add (Paired.mapP hp fun _ _ q => (q.mono gSlot_mono e5).monoSI x5) (hv.monoSI x5)
      cases hit with
      | box h =>
        refine s_if (et_is (et_test (ev_op (ev_ixT (ev_var rfl) ev_c h at0) ev_c (rv_eq rfl))) T3) (fun h => nomatch h) fun _ H4 e4 => ?_
        exact s_app (e4 _ _ hl3) (ev_var rfl) (ev_var rfl) hz100 fun H5 e5 => fin _ _ _ _ _ H5 (e4.trans e5) (.box (e5 _ _ (e4 _ _ h)))
      | part h =>
        refine s_if (et_is (et_test (ev_op (ev_ixT (ev_var rfl) ev_c h at0) ev_c (rv_eq rfl))) T3) (fun h => nomatch h) fun _ H4 e4 => ?_
        exact s_app (e4 _ _ hl3) (ev_var rfl) (ev_var rfl) hz100 fun H5 e5 => fin _ _ _ _ _ H5 (e4.trans e5) (.part (e5 _ _ (e4 _ _ h)))
      | pen h =>
        refine s_if (et_is (et_test (ev_op (ev_ixT (ev_var rfl) ev_c h at0) ev_c (rv_eq rfl))) T3) (fun h => nomatch h) fun _ H4 e4 => ?_
        exact s_app (e4 _ _ hl3) (ev_var rfl) (ev_var rfl) hz100 fun H5 e5 => fin _ _ _ _ _ H5 (e4.trans e5) (.pen (e5 _ _ (e4 _ _ h)))
      | @glue ga gv n s o k' h g =>
        obtain ⟨gg, rfl, hgg⟩ := g
        obtain ⟨⟨hn, hs, ho, hkk⟩, hso⟩ := hyo
        refine s_if (et_is (et_test (ev_op (ev_ixT (ev_var rfl) ev_c h at0) ev_c (rv_eq rfl))) T3) (fun _ H4 e4 => ?_) fun h => nomatch h
        refine q_asgG (R := fun v H' => v = .ref gg) (er_of (ev_ixT (ev_var rfl) ev_c (e4 _ _ h) at1) fun _ _ => rfl) fun v H5 e5 hv => ?_
        refine ⟨gg, _, hv, st_of (e5 _ _ (e4 _ _ hgg)), rfl, _, _, rfl, _, _, rfl, _, _, rfl, _, _, rfl, rfl, ?_⟩
        refine s_appR (R := fun v H' => ∃ vs, TupAt H' v vs ∧ ∃ gv, vs = [.str "glue", gv] ∧ GSlot cG H' gv n s o k') (e5 _ _ (e4 _ _ hl3)) (ev_var rfl) (er_tupR (R := fun vs H' => ∃ gv, vs = [.str "glue", gv] ∧ GSlot cG H' gv n s o k') (ear_ev ev_c fun H6 e6 => ear_cons (er_glueK (ea_cons (ev_var rfl) ea_nil) (ea_cons (ev_var rfl) (ea_cons (ev_var rfl) (ea_cons (ev_var rfl) ea_nil))) rfl rfl (fun x => rfl) ⟨by omega, by omega⟩ ⟨by omega, by omega⟩ ho ⟨by omega, by omega⟩ hso) fun gv H7 e7 hgv => ear_nil fun H8 e8 => ⟨gv, rfl, gSlot_mono.to _ _ _ _ _ _ _ e8 hgv⟩) fun vs H1 H2 e ⟨gv, h1, h2⟩ => ⟨by rw [h1]; show 2 ≤ 100000; decide, gv, h1, gSlot_mono.to _ _ _ _ _ _ _ e h2⟩) hz100 fun v H6 e6 hv6 => ?_
        obtain ⟨_, ⟨p, rfl, hp6⟩, gv, rfl, hgv⟩ := hv6
        exact fin _ _ _ _ _ H6 ((e4.trans e5).trans e6) (.glue hp6 hgv)
    · rintro σ' H3 ⟨o2, o3, o4, o5, o6, acc, rfl, e3, hl3, hp⟩
      rw [hl, List.take_length] at hp
      exact s_retR (er_tupOf (ev_var rfl) hl3) fun v H4 e4 ⟨b, hv, hb⟩ => k v H4 (e3.trans e4) ⟨b, acc, hv, hb, hp.mono gSlot_mono e4⟩
end
end K51
set_option Elab.async false
set_option linter.all false
set_option maxRecDepth 100000
set_option maxHeartbeats 4000000
namespace K51
open PySem PySem.Spec PyProof.Rows L2 Evl LamX
def rd9 (a b c d e f g h i : V) : List (Key × V) := mergeK [] (List.zip [.inr "widths", .inr "tolerance", .inr "line", .inr "hyphen", .inr "unlike", .inr "double", .inr "last", .inr "room", .inr "looseness"] [a, b, c, d, e, f, g, h, i])
theorem rd9_wid (a b c d e f g h i : V) : valV (rd9 a b c d e f g h i) (.inr "widths") = some a := by kernel_rfl
theorem rd9_tol (a b c d e f g h i : V) : valV (rd9 a b c d e f g h i) (.inr "tolerance") = some b := by kernel_rfl
theorem rd9_line (a b c d e f g h i : V) : valV (rd9 a b c d e f g h i) (.inr "line") = some c := by kernel_rfl
theorem rd9_hyp (a b c d e f g h i : V) : valV (rd9 a b c d e f g h i) (.inr "hyphen") = some d := by kernel_rfl
theorem rd9_unl (a b c d e f g h i : V) : valV (rd9 a b c d e f g h i) (.inr "unlike") = some e := by kernel_rfl
theorem rd9_dbl (a b c d e f g h i : V) : valV (rd9 a b c d e f g h i) (.inr "double") = some f := by kernel_rfl
theorem rd9_last (a b c d e f g h i : V) : valV (rd9 a b c d e f g h i) (.inr "last") = some g := by kernel_rfl
theorem rd9_room (a b c d e f g h i : V) : valV (rd9 a b c d e f g h i) (.inr "room") = some h := by kernel_rfl
theorem rd9_loose (a b c d e f g h i : V) : valV (rd9 a b c d e f g h i) (.inr "looseness") = some i := by kernel_rfl
abbrev rdU (wa : Addr) (u : Ru) : List (Key × V) := rd9 (.ref wa) (.int u.tol) (.int u.line) (.int u.hyp) (.int u.unl) (.int u.dbl) (.int u.last) (.int u.room) (.int u.loose)
/-- the law's rules as they are drawn -/
def RD9 (H : Hp) (v : V) (u : Ru) : Prop := ∃ p wa, v = .ref p ∧ H p = some (.dK (rdU wa u)) ∧ H wa = some (.tup (u.ws.map V.int))
theorem RD9.rd {H : Hp} {v : V} {u : Ru} (h : RD9 H v u) : RDictAt H v u := by
  obtain ⟨p, wa, h1, h2, h3⟩ := h
  exact ⟨p, _, h1, h2, ⟨⟨wa, rd9_wid .., h3⟩, rd9_tol .., rd9_line .., rd9_hyp .., rd9_unl .., rd9_dbl .., rd9_last .., rd9_room .., rd9_loose ..⟩⟩
/-! ### effects of the dice: comprehension, display -/
section
variable {d : Addr} {σ : L2.St} {H : Hp} {te tl : TE} {ta : TA} {K : PySem.W.Frag}
theorem ex_lcR1 {j : Nat} {vs : List Nat} {Rn Pn : Int → Prop} (h : EaX d ta σ H fun ws _ => ∃ n : Int, ws = [.int n] ∧ Rn n) (hn : ∀ n, Rn n → 0 ≤ n ∧ n ≤ 100000) (hw : ∀ x, wipe ((wipe σ vs).set j (some x)) vs = wipe σ vs) (he : ∀ x H1, XD d H H1 → EvX d te ((wipe σ vs).set j (some x)) H1 fun v _ => ∃ i : Int, v = .int i ∧ Pn i) :
    EvX d (tLc (iRng1 ta) (gName j) tYes te vs) σ H fun v H' => ∃ (l : Addr) (ns : List Int), v = .ref l ∧ l ≠ d ∧ H' l = some (.lst (ns.map V.int)) ∧ Rn (ns.length : Int) ∧ ∀ i ∈ ns, Pn i := fun H1 x dd Q q =>
  h H1 x dd _ fun ws H2 x2 d2 ⟨n, hv, hr⟩ => by
    obtain ⟨n0, n1⟩ := hn n hr
    refine ⟨n, hv, by omega, by omega, fun Dl hD => ?_⟩
    have hDd : Dl ≠ d := fun z => by
      obtain ⟨_, _, _, hd⟩ := d2
      rw [z, hd] at hD
      cases hD
    refine lc_range (lo := 0) (n := n.toNat) (fun i H' => XD d H2 H' ∧ DiceH H' d ∧ ∃ ns : List Int, H' Dl = some (.lst (ns.map V.int)) ∧ ns.length = i ∧ ∀ x ∈ ns, Pn x) ⟨.of (Ex.new hD), d2.mono (Ex.new hD), [], upd_same, rfl, fun _ h => absurd h List.not_mem_nil⟩ (fun i H3 hi ⟨x3, d3, ns, h3, hl, hp⟩ => ?_) fun H3 ⟨x3, d3, ns, h3, hl, hp⟩ => q _ H3 (x2.trans x3) d3 ⟨Dl, ns, rfl, hDd, h3, by rw [hl, Int.toNat_of_nonneg n0]; exact hr, hp⟩
    refine ⟨hw _, ?_⟩
    show te ((wipe σ vs).set j (some (.int (0 + (i : Int))))) H3 fun y H4 => ∃ acc, H4 Dl = some (.lst acc) ∧ acc.length < sizeLine ∧ XD d H2 (upd H4 Dl (.lst (acc ++ [y]))) ∧ DiceH (upd H4 Dl (.lst (acc ++ [y]))) d ∧ ∃ ns : List Int, upd H4 Dl (.lst (acc ++ [y])) Dl = some (.lst (ns.map V.int)) ∧ ns.length = i + 1 ∧ ∀ x ∈ ns, Pn x
    refine he _ H3 ((x.trans x2).trans x3) H3 (XD.refl d H3) d3 _ fun v H4 x4 d4 ⟨i', hv4, hp4⟩ => ⟨ns.map V.int, x4 _ _ hDd h3, ?_, XD.mut (x3.trans x4) hD, d4.other hDd, ns ++ [i'], ?_, ?_, ?_⟩
    · rw [List.length_map, hl]
      exact Nat.lt_of_lt_of_le (show i < 200000 by omega) (by decide)
    · rw [upd_same, hv4, List.map_append]
      rfl
    · rw [List.length_append, hl]
      rfl
    · intro y hy
      rcases List.mem_append.mp hy with h | h
      · exact hp y h
      · rw [List.mem_singleton.mp h]
        exact hp4
theorem ex_and {R : V → Hp → Prop} (h : EvX d te σ H R) : EvX d te σ H fun v H' => R v H' ∧ DiceH H' d := fun H1 x dd Q q => h H1 x dd Q fun v H2 x2 d2 r => q v H2 x2 d2 ⟨r, d2⟩
def EvPsX (d : Addr) : List (TE × TE) → List Key → L2.St → Hp → (List V → Hp → Prop) → Prop
  | [], [], _, H, R => ∀ H1, XD d H H1 → R [] H1
  | (tk, tv) :: r, k :: ks, σ, H, R => (∀ H1, XD d H H1 → Ev tk σ H1 (kV k)) ∧ ∃ R1 : V → Hp → Prop, EvX d tv σ H R1 ∧ ∀ v H1, XD d H H1 → R1 v H1 → EvPsX d r ks σ H1 fun vs H2 => R (v :: vs) H2
  | _, _, _, _, _ => False
theorem evX_pairs : ∀ {trs : List (TE × TE)} {ks : List Key} {σ : L2.St} {H : Hp} {R : List V → Hp → Prop}, EvPsX d trs ks σ H R → ∀ H1, XD d H H1 → DiceH H1 d → ∀ Q : List (V × V) → Hp → Prop, (∀ vs H2, XD d H1 H2 → DiceH H2 d → vs.length = ks.length → R vs H2 → Q ((ks.zip vs).map fun kv => (kV kv.1, kv.2)) H2) → tPairs trs σ H1 Q
  | [], [], _, _, _, h, H1, x, dd, Q, q => q [] H1 (XD.refl d H1) dd rfl (h H1 x)
  | (tk, tv) :: r, k :: ks, σ, H, R, h, H1, x, dd, Q, q => by
    obtain ⟨h1, R1, h2, h3⟩ := h
    exact h1 H1 x H1 (Ex.refl H1) _ fun H2 e2 => h2 H2 (x.trans (.of e2)) (dd.mono e2) _ fun v H3 x3 d3 r3 => evX_pairs (h3 v H3 ((x.trans (.of e2)).trans x3) r3) H3 (XD.refl d H3) d3 _ fun vs H4 x4 d4 hl r4 => q (v :: vs) H4 (((XD.of e2).trans x3).trans x4) d4 (by simp [hl]) r4
  | [], _ :: _, _, _, _, h, _, _, _, _, _ => h.elim
  | _ :: _, [], _, _, _, h, _, _, _, _, _ => h.elim
theorem evpx_int {tv : TE} {r : List (TE × TE)} {k : Str} {ks : List Key} {Pn : Int → Prop} {R : List V → Hp → Prop} (h : ∀ H1, XD d H H1 → EvX d tv σ H1 fun v _ => ∃ i : Int, v = .int i ∧ Pn i) (hr : ∀ i H1, XD d H H1 → Pn i → EvPsX d r ks σ H1 fun vs H2 => R (.int i :: vs) H2) : EvPsX d ((tC (.str k), tv) :: r) (.inr k :: ks) σ H R :=
  ⟨fun _ _ => ev_c, _, h H (XD.refl d H), fun v H1 x ⟨i, hv, hp⟩ => by
    rw [hv]
    exact hr i H1 x hp⟩
theorem ex_disp {trs : List (TE × TE)} {ks : List Key} {R : List V → Hp → Prop} (h : ∀ H1, XD d H H1 → EvPsX d trs ks σ H1 R) (hl : ks.length ≤ 15) (hm : ∀ vs H1 H2, TpX H1 H2 → R vs H1 → R vs H2) :
    EvX d (tDisp trs) σ H fun v H' => ∃ p vs, v = .ref p ∧ H' p = some (.dK (mergeK [] (ks.zip vs))) ∧ vs.length = ks.length ∧ R vs H' := fun H1 x dd Q q p hp => by
  have hpd : p ≠ d := fun z => by
    obtain ⟨_, _, _, hd⟩ := dd
    rw [z, hd] at hp
    cases hp
  exact evX_pairs (h _ (x.trans (.of (Ex.new hp)))) _ (XD.refl d _) (dd.mono (Ex.new hp)) _ fun vs H2 x2 d2 hv r => ⟨x2 p _ hpd upd_same, ks.zip vs, rfl, by rw [List.length_zip, hv, Nat.min_self]; exact hl, q _ _ (XD.mut ((XD.of (Ex.new hp)).trans x2) hp) (d2.other hpd) ⟨p, vs, rfl, upd_same, hv, hm vs H2 _ (fun a xs ha => by
    have ne : a ≠ p := fun z => by
      have := x2 p _ hpd upd_same
      rw [z, this] at ha
      cases ha
    rw [upd_ne ne]
    exact ha) r⟩⟩
theorem er_rulesK {cR : Addr} {ta tk : TA} {wa : Addr} {u : Ru} (ha : EvA ta σ H [.ref wa]) (hk : EvA tk σ H [.int u.tol, .int u.line, .int u.hyp, .int u.unl, .int u.dbl, .int u.last, .int u.room, .int u.loose]) (hw : H wa = some (.tup (u.ws.map V.int))) (hu : BdU u) :
    EvR (tMakeK cR 1 8 (sp_rules_init cR) (fun vs zs => gA vs [] zs) E0 ta tk) σ H fun v H' => RulesAt cR H' v u := fun H1 e Q q =>
  ha H1 e _ fun H2 e2 => hk H2 (e.trans e2) _ fun H3 e3 => ⟨rfl, rfl, fun x dx hx hdx hne => by
    have e4 := ex_two (o := .own x) (o' := .ins cR dx []) hx hdx hne
    exact ⟨x, dx, wa, u, H3, rfl, hx, upd_same, e4, e4 _ _ (e3 _ _ (e2 _ _ (e _ _ hw))), hu, fun H4 e5 g => ⟨rfl, q _ H4 ((e2.trans e3).trans e5) g⟩⟩⟩
end
section
variable {P : Program} {w : World} {K : PySem.W.Frag} {mg : Str → Option Value} {base : Heap} {cG cR cL aF cC Pt : Addr}
abbrev st_law_rules_drawn : Stmt := top 81
def nm_law_rules_drawn : List Str := ["_law_dice_here", "_law_widths", "_law_turn"]
theorem sc_law_rules_drawn : FnScope nm_law_rules_drawn ["_law_dice_here"] (defScope st_law_rules_drawn) := ⟨rfl, rfl, rfl, by decide +kernel, rfl, by decide +kernel, by decide +kernel⟩
def fDrawn : Addr → List V → Hp → (V → Hp → Prop) → Prop := fun d vs H R => vs = [] ∧ R = fun v H2 => ∃ u, RD9 H2 v u ∧ BdU u
theorem ok_law_rules_drawn (T : Tx K mg cG cR cL aF) (D : DefAt K mg "_law_rules_drawn" "_law_rules_drawn" "_law_rules_drawn" st_law_rules_drawn) (c_law_roll : Cal P w K mg base "_law_roll" ["_law_dice_here", "_law_total"] 1 (spDice fRoll)) (c_law_pick : Cal P w K mg base "_law_pick" ["_law_dice_here", "_law_items"] 2 (spDice fPick)) :
    Cal P w K mg base "_law_rules_drawn" ["_law_dice_here"] 3 (spDice fDrawn) := by
  refine cal_of D sc_law_rules_drawn (fun _ _ _ _ _ _ us hl => match us, hl with | [_], _ => rfl) (fun vs H Q E h => ?_) (fun f cdv A outer s H vs Q E hr h => ?_)
  · obtain ⟨d, ws, R, rfl, _, ⟨rfl, _⟩, _⟩ := h
    rfl
  · obtain ⟨d, ws, R, rfl, hdd, ⟨rfl, rfl⟩, k⟩ := h
    refine ⟨_, (pss_cons (ps_setLc (i := 1) (own := [("_law_turn", 2)]) rfl sc_law_rules_drawn.nd rfl rfl (sw_true rfl rfl rfl (by decide +kernel)) (pi_range1 rfl T.range_ (pa_cons (pe_op op_add pe_int (pe_cal c_law_roll (hr.mono (by decide)) (pa_cons (pv 0) (pa_cons pe_int pa_nil)))) pa_nil)) (blkOk_by (own := [("_law_turn", 2)]) (N := nm_law_rules_drawn) (sc := defScope st_law_rules_drawn) (by decide +kernel)) (fun _ _ _ _ _ => (pg_name (i := 2) sc_law_rules_drawn.nd rfl (Or.inl rfl))) (fun _ _ _ _ _ => pts_nil) (fun _ _ _ _ _ => (pe_cal c_law_pick (hr.mono (by decide)) (pa_cons (pv 0) (pa_cons (pe_lst (pa_cons pe_int (pa_cons pe_int (pa_cons pe_int (pa_cons pe_int (pa_cons pe_int (pa_cons pe_int (pa_cons pe_int pa_nil)))))))) pa_nil)))))
      (pss_one (ps_ret (pe_disp (pps_cons pe_str (pe_callTy call_tuple_of (by rfl) T.tuple_ (by decide +kernel) (pa_cons (pv 1) pa_nil)) (pps_cons pe_str (pe_cal c_law_pick (hr.mono (by decide)) (pa_cons (pv 0) (pa_cons (pe_lst (pa_cons pe_int (pa_cons pe_int (pa_cons pe_int (pa_cons pe_int (pa_cons pe_int (pa_cons pe_int pa_nil))))))) pa_nil))) (pps_cons pe_str (pe_cal c_law_pick (hr.mono (by decide)) (pa_cons (pv 0) (pa_cons (pe_lst (pa_cons pe_int (pa_cons pe_int (pa_cons pe_int pa_nil)))) pa_nil))) (pps_cons pe_str (pe_cal c_law_pick (hr.mono (by decide)) (pa_cons (pv 0) (pa_cons (pe_lst (pa_cons (pe_un un_neg pe_int) (pa_cons pe_int (pa_cons pe_int (pa_cons pe_int (pa_cons pe_int pa_nil)))))) pa_nil))) (pps_cons pe_str (pe_cal c_law_pick (hr.mono (by decide)) (pa_cons (pv 0) (pa_cons (pe_lst (pa_cons pe_int (pa_cons pe_int (pa_cons pe_int pa_nil)))) pa_nil))) (pps_cons pe_str (pe_cal c_law_pick (hr.mono (by decide)) (pa_cons (pv 0) (pa_cons (pe_lst (pa_cons pe_int (pa_cons pe_int pa_nil))) pa_nil))) (pps_cons pe_str (pe_cal c_law_pick (hr.mono (by decide)) (pa_cons (pv 0) (pa_cons (pe_lst (pa_cons pe_int (pa_cons pe_int (pa_cons pe_int pa_nil)))) pa_nil))) (pps_cons pe_str (pe_cal c_law_pick (hr.mono (by decide)) (pa_cons (pv 0) (pa_cons (pe_lst (pa_cons pe_int (pa_cons pe_int (pa_cons pe_int (pa_cons pe_int pa_nil))))) pa_nil))) (pps_cons pe_str (pe_cal c_law_pick (hr.mono (by decide)) (pa_cons (pv 0) (pa_cons (pe_lst (pa_cons pe_int (pa_cons pe_int (pa_cons pe_int (pa_cons pe_int (pa_cons (pe_un un_neg pe_int) (pa_cons pe_int (pa_cons (pe_un un_neg pe_int) pa_nil)))))))) pa_nil))) pps_nil))))))))) rfl rfl (by exact fun h => nomatch h) (by decide))))), ?_⟩
    have pk : ∀ {ta : TA} {ns : List Int} {H' : Hp} {o1 o2 : Option V} (lo hi : Int), (∀ H1, EvA ta [some (.ref d), o1, o2] H1 (ns.map V.int)) → (0 < ns.length ∧ ns.length < 1000) → (∀ i ∈ ns, lo ≤ i ∧ i ≤ hi) → EvX d (tCall (spDice fPick) [] E0 (tCons (tVar 0) (tCons (tLst ta) tNil))) [some (.ref d), o1, o2] H' fun v _ => ∃ i : Int, v = .int i ∧ lo ≤ i ∧ i ≤ hi :=
      fun {ta ns H' o1 o2} lo hi hl hn hb H1 x dd Q q => ex_pick (ns := ns) rfl hl hn H1 x dd Q fun v H2 x2 d2 ⟨i, hi2, hv⟩ => q v H2 x2 d2 ⟨i, hv, hb i hi2⟩
    refine x_asg (d := d) (R := fun v H' => ∃ (l : Addr) (ns : List Int), v = .ref l ∧ l ≠ d ∧ H' l = some (.lst (ns.map V.int)) ∧ (1 ≤ (ns.length : Int) ∧ (ns.length : Int) ≤ 2) ∧ ∀ i ∈ ns, (0 : Int) ≤ i ∧ i ≤ 60) hdd (ex_lcR1 (d := d) (Rn := fun n => 1 ≤ n ∧ n ≤ 2) (Pn := fun i => 0 ≤ i ∧ i ≤ 60) (eax_cons (R1 := fun v _ => ∃ i : Int, v = .int i ∧ 1 ≤ i ∧ i ≤ 2) (ex_opr (R1 := fun v _ => ∃ i : Int, v = .int i ∧ 0 ≤ i ∧ i < 2) (fun _ => ev_c) (ex_dice (fun H2 x2 => ea_cons (ev_var rfl) (ea_cons ev_c ea_nil)) fun H2 x2 => ⟨2, rfl, ⟨by decide, by decide⟩, rfl⟩) fun v H2 ⟨i, hv, h1, h2⟩ => ⟨.int (1 + i), by rw [hv]; exact rv_I0, fun _ _ => ⟨1 + i, rfl, by omega, by omega⟩⟩) fun v H2 x2 ⟨i, hv, h1⟩ => eax_nil fun H3 x3 => ⟨i, by rw [hv], h1⟩) (fun n h => by omega) (fun x => rfl) fun x H1 x1 => ?_) fun v H1 x1 d1 hv => ?_
    · exact pk (ns := [0, 10, 20, 25, 30, 40, 60]) 0 60 (fun H1 => ea_cons ev_c (ea_cons ev_c (ea_cons ev_c (ea_cons ev_c (ea_cons ev_c (ea_cons ev_c (ea_cons ev_c ea_nil))))))) ⟨by decide, by decide⟩ (by decide)
    obtain ⟨l, ns, rfl, nld, hl1, hnl, hnb⟩ := hv
    refine ex_disp (d := d) (ks := [.inr "widths", .inr "tolerance", .inr "line", .inr "hyphen", .inr "unlike", .inr "double", .inr "last", .inr "room", .inr "looseness"]) (R := fun vs H' => ∃ wa tol line hyp unl dbl last room loose, vs = [.ref wa, .int tol, .int line, .int hyp, .int unl, .int dbl, .int last, .int room, .int loose] ∧ H' wa = some (.tup (ns.map V.int)) ∧ BdU ⟨ns, tol, line, hyp, unl, dbl, last, room, loose⟩) (fun H2 x2 => ?_) (by show 9 ≤ 15; decide) (fun vs H1 H2 t ⟨wa, a1, a2, a3, a4, a5, a6, a7, a8, h1, h2, h3⟩ => ⟨wa, a1, a2, a3, a4, a5, a6, a7, a8, h1, t _ _ h2, h3⟩) H1 (XD.refl d H1) d1 _ fun v H2 x2 d2 ⟨p, vs, hv, hp, _, wa, tol, line, hyp, unl, dbl, last, room, loose, hvs, hwa, hb⟩ => k v H2 (x1.trans x2) d2 ⟨⟨ns, tol, line, hyp, unl, dbl, last, room, loose⟩, ⟨p, wa, hv, by rw [hp, hvs]; rfl, hwa⟩, hb⟩
    refine ⟨fun _ _ => ev_c, fun v H' => (∃ wa, v = .ref wa ∧ H' wa = some (.tup (ns.map V.int))) ∧ DiceH H' d, ex_and (ex_er fun H3 x3 => er_tupOf (ev_var rfl) (x3 _ _ nld (x2 _ _ nld hl1))), fun v H3 x3 ⟨⟨wa, hv, hwa⟩, d3⟩ => ?_⟩
    rw [hv]
    have nw : wa ≠ d := fun z => by
      obtain ⟨_, _, _, hd⟩ := d3
      rw [z, hd] at hwa
      cases hwa
    refine evpx_int (fun H4 x4 => pk (ns := [0, 50, 200, 1000, 9999, 10000]) 0 10000 (fun H1 => ea_cons ev_c (ea_cons ev_c (ea_cons ev_c (ea_cons ev_c (ea_cons ev_c (ea_cons ev_c ea_nil)))))) ⟨by decide, by decide⟩ (by decide)) fun tol H4 x4 h4 => ?_
    refine evpx_int (fun H5 x5 => pk (ns := [0, 1, 10]) 0 10000 (fun H1 => ea_cons ev_c (ea_cons ev_c (ea_cons ev_c ea_nil))) ⟨by decide, by decide⟩ (by decide)) fun line H5 x5 h5 => ?_
    refine evpx_int (fun H6 x6 => pk (ns := [-100, 0, 50, 50, 10000]) (-9999) 10000 (fun H1 => ea_cons (ev_un ev_c ru_neg) (ea_cons ev_c (ea_cons ev_c (ea_cons ev_c (ea_cons ev_c ea_nil))))) ⟨by decide, by decide⟩ (by decide)) fun hyp H6 x6 h6 => ?_
    refine evpx_int (fun H7 x7 => pk (ns := [0, 70, 10000]) 0 1000000 (fun H1 => ea_cons ev_c (ea_cons ev_c (ea_cons ev_c ea_nil))) ⟨by decide, by decide⟩ (by decide)) fun unl H7 x7 h7 => ?_
    refine evpx_int (fun H8 x8 => pk (ns := [0, 900]) 0 1000000 (fun H1 => ea_cons ev_c (ea_cons ev_c ea_nil)) ⟨by decide, by decide⟩ (by decide)) fun dbl H8 x8 h8 => ?_
    refine evpx_int (fun H9 x9 => pk (ns := [0, 600, 5000]) 0 1000000 (fun H1 => ea_cons ev_c (ea_cons ev_c (ea_cons ev_c ea_nil))) ⟨by decide, by decide⟩ (by decide)) fun last H9 x9 h9 => ?_
    refine evpx_int (fun H10 x10 => pk (ns := [0, 0, 0, 5]) 0 100 (fun H1 => ea_cons ev_c (ea_cons ev_c (ea_cons ev_c (ea_cons ev_c ea_nil)))) ⟨by decide, by decide⟩ (by decide)) fun room H10 x10 h10 => ?_
    refine evpx_int (fun H11 x11 => pk (ns := [0, 0, 0, 1, -1, 2, -3]) (-100) 100 (fun H1 => ea_cons ev_c (ea_cons ev_c (ea_cons ev_c (ea_cons ev_c (ea_cons (ev_un ev_c ru_neg) (ea_cons ev_c (ea_cons (ev_un ev_c ru_neg) ea_nil))))))) ⟨by decide, by decide⟩ (by decide)) fun loose H11 x11 h11 => ?_
    exact fun H12 x12 => ⟨wa, tol, line, hyp, unl, dbl, last, room, loose, rfl, x12 _ _ nw (x11 _ _ nw (x10 _ _ nw (x9 _ _ nw (x8 _ _ nw (x7 _ _ nw (x6 _ _ nw (x5 _ _ nw (x4 _ _ nw hwa)))))))), ⟨⟨by show 1 ≤ ns.length; omega, by show ns.length ≤ 40; omega⟩, fun x hx => by have := hnb x hx; omega, h4, h5, h6, h7, h8, h9, h10, h11⟩⟩
abbrev st_law_rules_made : Stmt := top 82
def nm_law_rules_made : List Str := ["_law_plain"]
theorem sc_law_rules_made : FnScope nm_law_rules_made ["_law_plain"] (defScope st_law_rules_made) := ⟨rfl, rfl, rfl, by decide +kernel, rfl, by decide +kernel, by decide +kernel⟩
def sp_law_rules_made (cR : Addr) : Sp := spR fun vs H R => ∃ x u, vs = [x] ∧ RDictAt H x u ∧ BdU u ∧ R = fun v H2 => RulesAt cR H2 v u
theorem ok_law_rules_made (T : Tx K mg cG cR cL aF) (M_rA : MkK P w K mg base cR rulesPs 4 (sp_rules_init cR) 1 ["tolerance", "line", "hyphen", "unlike", "double", "last", "room", "looseness"] (fun vs zs => gA vs [] zs)) (D : DefAt K mg "_law_rules_made" "_law_rules_made" "_law_rules_made" st_law_rules_made) : Cal P w K mg base "_law_rules_made" ["_law_plain"] 6 (sp_law_rules_made cR) := by
  refine cal_of D sc_law_rules_made (fun _ _ _ _ _ _ us hl => match us, hl with | [_], _ => rfl) (fun vs H Q E h => ?_) (fun f cdv A outer s H vs Q E hr h => ?_)
  · obtain ⟨R, ⟨x, u, rfl, _⟩, _⟩ := h
    rfl
  · obtain ⟨R, ⟨x, u, rfl, ⟨a, kvs, rfl, ha, hd⟩, hu, rfl⟩, k⟩ := h
    refine ⟨_, (pss_one (ps_ret (pe_mkK M_rA T.g_Rules (hr.mono (by decide)) (pa_cons (pe_dget hr.u1 (pv 0) pe_str (fun _ _ => rfl)) pa_nil) (pk_cons (pe_dget hr.u1 (pv 0) pe_str (fun _ _ => rfl)) (pk_cons (pe_dget hr.u1 (pv 0) pe_str (fun _ _ => rfl)) (pk_cons (pe_dget hr.u1 (pv 0) pe_str (fun _ _ => rfl)) (pk_cons (pe_dget hr.u1 (pv 0) pe_str (fun _ _ => rfl)) (pk_cons (pe_dget hr.u1 (pv 0) pe_str (fun _ _ => rfl)) (pk_cons (pe_dget hr.u1 (pv 0) pe_str (fun _ _ => rfl)) (pk_cons (pe_dget hr.u1 (pv 0) pe_str (fun _ _ => rfl)) (pk_cons (pe_dget hr.u1 (pv 0) pe_str (fun _ _ => rfl)) pk_nil))))))))))), ?_⟩
    obtain ⟨wa, hw, hwa⟩ := hd.wid
    have g : ∀ {x : Str} {v : V}, valV kvs (.inr x) = some v → Ev (tDGet (tVar 0) (tC (.str x))) [some (.ref a)] H v := fun {x v} h => ev_dget (k := .inr x) (ev_var rfl) ev_c ha h
    exact s_retR (er_rulesK (ea_cons (g hw) ea_nil) (ea_cons (g hd.tol) (ea_cons (g hd.line) (ea_cons (g hd.hyp) (ea_cons (g hd.unl) (ea_cons (g hd.dbl) (ea_cons (g hd.last) (ea_cons (g hd.room) (ea_cons (g hd.loose) ea_nil)))))))) hwa hu) fun v H1 e1 h1 => k v H1 e1 h1
end
end K51
set_option maxRecDepth 100000
set_option linter.all false
set_option maxHeartbeats 1000000
/-! What the program tells is what the law's search by force tells. -/
namespace K51
theorem b2i_nn (b : Bool) : 0 ≤ b2i b := by cases b <;> decide
theorem step_nn {r : Row} {u : Ru} {x y : Nd} {d : Cost} {e : Nat} (h : step r u x e = (y, d)) : 0 ≤ d.1 := by
  have : d.1 = b2i (wrongOf r u x.p e (x.n + 1)) := (congrArg (fun z => z.2.1) h).symm
  rw [this]
  exact b2i_nn _
theorem path_nn {r : Row} {u : Ru} {wr : Bool} {x : Nd} {c : Cost} {w : List Int} (h : Path r u wr x c w) : 0 ≤ c.1 := by
  induction h with
  | nil => decide
  | snoc hp ho ih =>
    obtain ⟨_, e, _, hs, _⟩ := outs_mem ho
    have := step_nn hs
    show 0 ≤ _ + _
    omega
theorem path_zero {r : Row} {u : Ru} {x : Nd} {c : Cost} {w : List Int} (h : Path r u false x c w) : c.1 = 0 := by
  induction h with
  | nil => rfl
  | snoc hp ho ih =>
    obtain ⟨_, e, _, hs, hz⟩ := outs_mem ho
    rcases hz with hz | hz
    · cases hz
    · show _ + _ = (0 : Int)
      rw [ih, hz]
      rfl
theorem path_of_zero {r : Row} {u : Ru} {x : Nd} {c : Cost} {w : List Int} (h : Path r u true x c w) : c.1 = 0 → Path r u false x c w := by
  induction h with
  | nil => exact fun _ => .nil
  | @snoc x y c d w hp ho ih =>
    intro hc
    obtain ⟨h1, e, h2, hs, _⟩ := outs_mem ho
    have n1 := step_nn hs
    have n2 := path_nn hp
    have hc : c.1 + d.1 = 0 := hc
    refine .snoc (ih (by omega)) ?_
    unfold outs
    rw [h1, if_neg (by decide), List.mem_filter]
    refine ⟨?_, ?_⟩
    · unfold steps
      rw [← hs]
      exact List.mem_map_of_mem h2
    · show (false || decide (d.1 = 0)) = true
      rw [decide_eq_true (by omega)]
      rfl
theorem mem_some {r : Row} {u : Ru} {wr : Bool} (h2 : 1 ≤ r.length) {c : Cost} {n : Int} : (c, n) ∈ someOf wr (wfound r u r.length) ↔ ∃ x w, Path r u wr x c w ∧ isEnd r x = true ∧ n = (w.length : Int) := by
  unfold someOf
  constructor
  · intro h
    obtain ⟨⟨w, c'⟩, hy, he⟩ := List.mem_map.mp h
    have e1 : c' = c := congrArg Prod.fst he
    have e2 : (w.length : Int) = n := congrArg Prod.snd he
    subst e1
    rw [List.mem_filter] at hy
    obtain ⟨hy, hf⟩ := hy
    obtain ⟨x, hp, hx⟩ := found_sound h2 _ _ _ hy
    refine ⟨x, w, ?_, hx, e2.symm⟩
    cases wr with
    | true => exact hp
    | false =>
      have hf : (false || decide (c'.1 = 0)) = true := hf
      rw [Bool.false_or] at hf
      exact path_of_zero hp (of_decide_eq_true hf)
  · rintro ⟨x, w, hp, hx, rfl⟩
    refine List.mem_map.mpr ⟨(w, c), List.mem_filter.mpr ⟨found_all h2 (path_true hp) hx, ?_⟩, rfl⟩
    cases wr with
    | true => rfl
    | false =>
      show (false || decide (c.1 = 0)) = true
      rw [decide_eq_true (path_zero hp)]
      rfl
theorem ends_mem {r : Row} {fd : Fd} {x : Nd} : x ∈ endsOf r fd ↔ x ∈ keysOf fd ∧ isEnd r x = true := by
  unfold endsOf nodesK isEnd
  rw [List.mem_filter]
theorem ends_some {r : Row} {u : Ru} {wr : Bool} (h2 : 1 ≤ r.length) {x : Nd} (hx : x ∈ endsOf r (allNodes r u wr)) : (costAt (allNodes r u wr) x, x.n) ∈ someOf wr (wfound r u r.length) := by
  obtain ⟨hk, he⟩ := ends_mem.mp hx
  obtain ⟨P, j⟩ := all_j r u wr
  obtain ⟨⟨c, o⟩, hv⟩ := Option.isSome_iff_exists.mp (fget_isSome.mpr hk)
  have hpb := ((all_fdok r u wr).ok _ hk).pb
  obtain ⟨wy, _, hpath⟩ := chain_of j (x.p + 1).toNat x (c, o) hv (by omega)
  have hc : costAt (allNodes r u wr) x = c := by
    unfold costAt
    rw [hv]
  rw [hc]
  exact (mem_some h2).mpr ⟨x, wy, hpath, he, path_num hpath⟩
theorem some_ends {r : Row} {u : Ru} {wr : Bool} (h2 : 1 ≤ r.length) {c : Cost} {n : Int} (h : (c, n) ∈ someOf wr (wfound r u r.length)) : ∃ x ∈ endsOf r (allNodes r u wr), x.n = n ∧ clt c (costAt (allNodes r u wr) x) = false := by
  obtain ⟨x, w, hp, he, hn⟩ := (mem_some h2).mp h
  obtain ⟨P, j⟩ := all_j r u wr
  obtain ⟨cx, ox, hf, hc⟩ := least_of j hp
  have hk : x ∈ keysOf (allNodes r u wr) := fget_isSome.mp (by rw [hf]; rfl)
  have hcx : costAt (allNodes r u wr) x = cx := by
    unfold costAt
    rw [hf]
  exact ⟨x, ends_mem.mpr ⟨hk, he⟩, by rw [path_num hp, hn], by rw [hcx]; exact hc⟩
theorem lex_key (a b : Cost) (n : Int) : lexLt (key a ++ [n]) (key b ++ [n]) = clt a b := by
  unfold clt key
  simp [lexLt]
theorem key_len {a b : Cost} {n m : Int} (h : key a ++ [n] = key b ++ [m]) : a = b ∧ n = m := by
  obtain ⟨a1, a2, a3⟩ := a
  obtain ⟨b1, b2, b3⟩ := b
  simp [key] at h
  obtain ⟨h1, h2, h3, h4⟩ := h
  subst h1
  subst h2
  subst h3
  exact ⟨rfl, h4⟩
theorem clt_tri {a b : Cost} (h1 : clt a b = false) (h2 : clt b a = false) : a = b := by
  have := lexLt_tri h1 h2
  exact (key_len (n := 0) (m := 0) (by rw [this])).1
/-- none by the program, none by force -/
theorem ends_nil {r : Row} {u : Ru} {wr : Bool} (h2 : 1 ≤ r.length) : endsOf r (allNodes r u wr) = [] ↔ someOf wr (wfound r u r.length) = [] := by
  constructor
  · intro h
    cases hs : someOf wr (wfound r u r.length) with
    | nil => rfl
    | cons y l =>
      obtain ⟨x, hx, _⟩ := some_ends (u := u) (wr := wr) h2 (c := y.1) (n := y.2) (by rw [hs]; exact List.mem_cons_self)
      rw [h] at hx
      cases hx
  · intro h
    cases hs : endsOf r (allNodes r u wr) with
    | nil => rfl
    | cons y l =>
      have := ends_some (u := u) (wr := wr) h2 (x := y) (by rw [hs]; exact List.mem_cons_self)
      rw [h] at this
      cases this
theorem told_due {r : Row} {u : Ru} {wr : Bool} (h2 : 1 ≤ r.length) {b : Nd} {m : Int} {l : Nd} {b' : Sm} {m' : Int} {l' : Cost} (t : Told r u (allNodes r u wr) b m l) (d : Due (someOf wr (wfound r u r.length)) u.loose b' m' l') : m = m' ∧ costAt (allNodes r u wr) l = l' := by
  have hb : b.n = b'.2 := by
    have h1 := d.b2 _ (ends_some h2 t.b1)
    obtain ⟨x, hx, hn, hc⟩ := some_ends (c := b'.1) (n := b'.2) h2 d.b1
    have h3 := t.b2 x hx
    have h4 : lexLt (key b'.1 ++ [b'.2]) (key (costAt (allNodes r u wr) x) ++ [x.n]) = false := by
      rw [hn, lex_key]
      exact hc
    have h5 := lexLe_trans h3 h4
    exact (key_len (lexLt_tri h1 h5)).2
  have hm : m = m' := by
    obtain ⟨x, hx, hxn⟩ := t.m1
    obtain ⟨y, hy, hyn⟩ := d.m1
    have h1 := d.m2 _ (ends_some h2 hx)
    obtain ⟨z, hz, hzn, _⟩ := some_ends (c := y.1) (n := y.2) h2 hy
    have h3 := t.m2 z hz
    dsimp only at h1
    rw [hzn, hyn, hb] at h3
    rw [hxn] at h1
    have := lexLt_tri h1 h3
    simp only [List.cons.injEq, and_true] at this
    exact this.2
  refine ⟨hm, ?_⟩
  subst hm
  have h1 := ends_some (u := u) (wr := wr) h2 t.l1.1
  have h3 := d.l2 _ h1 t.l1.2
  obtain ⟨x, hx, hn, hc⟩ := some_ends h2 d.l1
  have h4 := t.l2 x hx hn
  have h5 : clt l' (costAt (allNodes r u wr) l) = false := lexLe_trans h4 hc
  exact clt_tri h3 h5
/-! ### there is a way -/
theorem cutAt_ne {α : Type} (f : α → Bool) {xs : List α} (h : xs ≠ []) : cutAt f xs ≠ [] := by
  cases xs with
  | nil => exact absurd rfl h
  | cons x l =>
    show x :: _ ≠ []
    exact List.cons_ne_nil _ _
theorem nexts_ne {r : Row} {hyp p : Int} (h : RowOk r) (hp : Pl r p) : nexts r hyp p ≠ [] := by
  obtain ⟨h0, hf⟩ := h
  have hs := startOf_le h0 hp
  have hm : r.length - 1 ∈ (places r hyp).filter fun i => decide (startOf r p ≤ i) := by
    rw [List.mem_filter]
    refine ⟨?_, decide_eq_true (by omega)⟩
    unfold places
    rw [List.mem_filter, List.mem_range]
    refine ⟨by omega, ?_⟩
    unfold isPlace
    cases e : at_ r (r.length - 1) with
    | box w => rw [e] at hf; cases hf
    | glue n s o k => rw [e] at hf; cases hf
    | part a b c => rw [e] at hf; cases hf
    | pen q =>
      rw [e] at hf
      have : q = -10000 := of_decide_eq_true hf
      show decide (q < 10000) = true
      rw [this]
      decide
  unfold nexts
  exact cutAt_ne _ (List.ne_nil_of_mem hm)
theorem end_path {r : Row} {u : Ru} (h : RowOk r) : ∀ (n : Nat) (x : Nd) (c : Cost) (w : List Int), Path r u true x c w → Pl r x.p → ((r.length : Int) - 1 - x.p).toNat ≤ n → ∃ x c w, Path r u true x c w ∧ isEnd r x = true
  | 0, x, c, w, hp, hpl, hn => by
    exfalso
    have := h.1
    rcases hpl with e | e
    · omega
    · omega
  | n + 1, x, c, w, hp, hpl, hn => by
    obtain ⟨e, he⟩ := List.exists_mem_of_ne_nil _ (nexts_ne (hyp := u.hyp) h hpl)
    obtain ⟨h1, _, h3⟩ := nexts_mem he
    have h4 := startOf_gt hpl
    have hx : isEnd r x = false := by
      unfold isEnd
      have := h.1
      rcases hpl with e | e
      · exact decide_eq_false (by omega)
      · exact decide_eq_false (by omega)
    have hnew : Path r u true (step r u x e).1 (cadd c (step r u x e).2) (w ++ [(step r u x e).1.p]) := .snoc hp (step_mem_outs hx he)
    have hpe : (step r u x e).1.p = (e : Int) := rfl
    by_cases hl : (e : Int) = (r.length : Int) - 1
    · exact ⟨_, _, _, hnew, by unfold isEnd; rw [hpe]; exact decide_eq_true hl⟩
    · exact end_path h n _ _ _ hnew (.inr (by rw [hpe]; omega)) (by rw [hpe]; omega)
theorem found_ne {r : Row} {u : Ru} (h : RowOk r) : wfound r u r.length ≠ [] := by
  obtain ⟨x, c, w, hp, he⟩ := end_path (u := u) h ((r.length : Int)).toNat first zero [] .nil (.inl rfl) (by show ((r.length : Int) - 1 - -1).toNat ≤ _; omega)
  exact List.ne_nil_of_mem (found_all h.1 hp he)
/-! ### looseness far off -/
abbrev Ru.far (u : Ru) (l : Int) : Ru := { u with loose := l }
theorem outs_far (r : Row) (u : Ru) (l : Int) (wr : Bool) (x : Nd) : outs r (u.far l) wr x = outs r u wr x := rfl
theorem path_far {r : Row} {u : Ru} {l : Int} {wr : Bool} {x : Nd} {c : Cost} {w : List Int} (h : Path r (u.far l) wr x c w) : Path r u wr x c w := by
  induction h with
  | nil => exact .nil
  | snoc hp ho ih => exact .snoc ih ho
theorem path_far' {r : Row} {u : Ru} {l : Int} {wr : Bool} {x : Nd} {c : Cost} {w : List Int} (h : Path r u wr x c w) : Path r (u.far l) wr x c w := by
  induction h with
  | nil => exact .nil
  | snoc hp ho ih => exact .snoc ih ho
theorem far_len {r : Row} {u : Ru} {l : Int} (h2 : 1 ≤ r.length) {y : List Int × Cost} (hy : y ∈ wfound r u r.length) : ∃ x ∈ endsOf r (allNodes r (u.far l) true), x.n = (y.1.length : Int) := by
  obtain ⟨w, c⟩ := y
  obtain ⟨x, hp, he⟩ := found_sound h2 _ _ _ hy
  obtain ⟨x', h3, h4, _⟩ := some_ends (u := u.far l) (wr := true) h2 ((mem_some h2).mpr ⟨x, w, path_far' hp, he, rfl⟩)
  exact ⟨x', h3, h4⟩
theorem ends_bd {r : Row} {u : Ru} {wr : Bool} (h2 : 1 ≤ r.length) (h12 : r.length ≤ 12) {x : Nd} (hx : x ∈ endsOf r (allNodes r u wr)) : 0 ≤ x.n ∧ x.n ≤ 12 := by
  obtain ⟨x', w, hp, he, hn⟩ := (mem_some h2).mp (ends_some h2 hx)
  obtain ⟨_, _, h3, _⟩ := path_wave (path_true hp)
  have he : x'.p = (r.length : Int) - 1 := of_decide_eq_true he
  omega
theorem lexLt2 {a b c d : Int} (h : lexLt [a, b] [c, d] = false) : c ≤ a := by
  simp only [lexLt] at h
  by_cases e : a = c
  · omega
  · rw [if_neg e] at h
    have := of_decide_eq_false h
    omega
theorem far_told {r : Row} {u : Ru} {l : Int} (h2 : 1 ≤ r.length) (h12 : r.length ≤ 12) {b : Nd} {m : Int} {nd : Nd} (t : Told r (u.far l) (allNodes r (u.far l) true) b m nd) (hl : l = 100 ∨ l = -100) : (∃ y ∈ wfound r u r.length, (y.1.length : Int) = m) ∧ ∀ y ∈ wfound r u r.length, if 0 < l then (y.1.length : Int) ≤ m else m ≤ (y.1.length : Int) := by
  refine ⟨?_, fun y hy => ?_⟩
  · obtain ⟨x, w, hp, he, hn⟩ := (mem_some h2).mp (ends_some h2 t.l1.1)
    exact ⟨(w, _), found_all h2 (path_far (path_true hp)) he, by rw [← t.l1.2, hn]⟩
  · obtain ⟨x, hx, hn⟩ := far_len (l := l) h2 hy
    have h3 := lexLt2 (t.m2 x hx)
    have b1 := ends_bd h2 h12 hx
    have b2 := ends_bd h2 h12 t.b1
    have b3 := ends_bd h2 h12 t.l1.1
    rw [t.l1.2] at b3
    have h3 : ((m - (b.n + l)).natAbs : Int) ≤ ((x.n - (b.n + l)).natAbs : Int) := h3
    rcases hl with rfl | rfl
    · rw [if_pos (by decide)]
      omega
    · rw [if_neg (by decide)]
      omega
theorem Bd.far {r : Row} {u : Ru} {l : Int} (h : Bd r u) (hl : -100 ≤ l ∧ l ≤ 100) : Bd r (u.far l) := ⟨h.ok, h.len, h.two, h.its, h.wl, h.ws, h.tol, h.line, h.hyp, h.unl, h.dbl, h.last, h.room, hl⟩
end K51
set_option Elab.async false
set_option linter.all false
set_option maxRecDepth 100000
set_option maxHeartbeats 4000000
namespace K51
open PySem PySem.Spec PyProof.Rows L2 Evl LamX
/-! ### tuples stay -/
theorem TpX.ofN {H H' : Hp} (e : ExtN H H') : TpX H H' := fun a xs h => e a _ h fun ps z => nomatch z
theorem wayR_monoX {H H' : Hp} {v : V} {y : List Int × Cost} (e : TpX H H') (h : WayR H v y) : WayR H' v y := by
  obtain ⟨wv, cv, h1, h2, h3⟩ := h
  exact ⟨wv, cv, h1.monoX e, h2.monoX e, h3.monoX e⟩
theorem rv_notN {x : V} {H : Hp} : RV (fun x y H Q => y = .non ∧ Q (.bl (!decide (x = .non))) H) x .non H (.bl (!decide (x = .non))) := rv_val fun H1 e Q q => ⟨rfl, q⟩
theorem PlainAt.monoN {H H' : Hp} {v : V} {r : Row} (e : ExtN H H') (h : PlainAt H v r) : PlainAt H' v r := by
  obtain ⟨a, vs, h1, h2, h3⟩ := h
  exact ⟨a, vs, h1, e _ _ h2 (fun ps z => nomatch z), Paired.mapP h3 fun _ _ q => q.monoX (.ofN e)⟩
theorem RDictAt.monoN {H H' : Hp} {v : V} {u : Ru} (e : ExtN H H') (h : RDictAt H v u) : RDictAt H' v u := by
  obtain ⟨a, kvs, h1, h2, h3⟩ := h
  obtain ⟨wa, h4, h5⟩ := h3.wid
  exact ⟨a, kvs, h1, e _ _ h2 (fun ps z => nomatch z), ⟨⟨wa, h4, e _ _ h5 (fun ps z => nomatch z)⟩, h3.tol, h3.line, h3.hyp, h3.unl, h3.dbl, h3.last, h3.room, h3.loose⟩⟩
theorem RD9.monoN {H H' : Hp} {v : V} {u : Ru} (e : ExtN H H') (h : RD9 H v u) : RD9 H' v u := by
  obtain ⟨p, wa, h1, h2, h3⟩ := h
  exact ⟨p, wa, h1, e _ _ h2 (fun ps z => nomatch z), e _ _ h3 (fun ps z => nomatch z)⟩
abbrev WaysAt (H : Hp) (v : V) (ys : List (List Int × Cost)) : Prop := LstR WayR H v ys
theorem ways_monoN {H H' : Hp} {v : V} {ys : List (List Int × Cost)} (e : ExtN H H') (h : LstR WayR H v ys) : LstR WayR H' v ys := by
  obtain ⟨a, acc, h1, h2, h3⟩ := h
  exact ⟨a, acc, h1, e _ _ h2 (fun ps z => nomatch z), Paired.mapP h3 fun _ _ q => wayR_monoX (.ofN e) q⟩
theorem bd_of {r : Row} {u : Ru} (h : MRow r) (b : BdU u) : Bd r u := ⟨h.ok, by have := h.len; omega, h.two, fun x hx => (h.its x hx).bd, b.wl, b.ws, b.tol, b.line, b.hyp, b.unl, b.dbl, b.last, b.room, b.loose⟩
def dueD (n : Int) (c : Cost) : PyData := .tuple [.int n, .tuple [.int c.1, .int c.2.1, .int c.2.2]]
theorem dueD_sh (n : Int) (c : Cost) : SeqAt.shaped (dueD n c) = true := by
  have h1 : (dueD n c).canLay0 = true := by simp [dueD, PyData.canLay0, PyData.canLayAll0]
  have h2 : (dueD n c).depth ≤ 64 := by simp [dueD, PyData.depth, PyData.depthAll]
  unfold SeqAt.shaped
  rw [h1, decide_eq_true h2]
  rfl
theorem dueD_eq (n : Int) (c : Cost) : PyData.eqv (dueD n c) (dueD n c) = true := by simp [dueD, PyData.eqv, PyData.eqvAll]
theorem dueD_dp {K : PySem.W.Frag} {H : Hp} {v cv : V} {n : Int} {c : Cost} (h1 : TupAt H v [.int n, cv]) (h2 : TupAt H cv (costV c)) : Dp K H v (dueD n c) := by
  obtain ⟨a, rfl, ha⟩ := h1
  obtain ⟨b, rfl, hb⟩ := h2
  exact .tup (st_of ha) (.cons (.int _) (.cons (.tup (st_of hb) (.cons (.int _) (.cons (.int _) (.cons (.int _) .nil)))) .nil))
section
variable {T : List (Addr × Str)} {σ : L2.St} {H : Hp} {te : TE} {ta tk : TA} {D : Ends} {tz : TS} {Q : VK}
theorem ev_ofR {w : V} (h : EvR te σ H fun v _ => v = w) : Ev te σ H w := fun H1 e Q q => h H1 e Q fun v H2 e2 r => by
  rw [r]
  exact q H2 e2
/-- f(.., k = v) whose arguments a word tells -/
theorem v_calNKR {f : List V → Hp → (V → Hp → Prop) → Prop} {n m : Nat} {gV : List V → List V → List V} {R0 : List V → Hp → Prop} (h : EvAR ta σ H R0) (hT : Tabs T H)
    (k : ∀ vs H1, Ex H H1 → R0 vs H1 → ∃ zs, EvA tk σ H1 zs ∧ vs.length = n ∧ zs.length = m ∧ ∃ R : V → Hp → Prop, (∀ H2, Ex H1 H2 → f (gV vs zs) H2 R) ∧ ∀ v H2, ExtN H H2 → Tabs T H2 → R v H2 → Q v H2) : tCallN n m (spN T f) gV E0 ta tk σ H Q :=
  h H (Ex.refl H) _ fun vs H1 e1 r => by
    obtain ⟨zs, hz, l1, l2, R, hf, hk⟩ := k vs H1 e1 r
    exact hz H1 (Ex.refl H1) _ fun H2 e2 => ⟨l1, l2, R, hf H2 e2, hT.ext (e1.trans e2), fun v H3 e3 t r3 => hk v H3 ((K51.ExtN.ofEx (e1.trans e2)).trans e3) t r3⟩
theorem q_calNKR {f : List V → Hp → (V → Hp → Prop) → Prop} {n m i : Nat} {gV : List V → List V → List V} {R0 : List V → Hp → Prop} (h : EvAR ta σ H R0) (hT : Tabs T H)
    (k : ∀ vs H1, Ex H H1 → R0 vs H1 → ∃ zs, EvA tk σ H1 zs ∧ vs.length = n ∧ zs.length = m ∧ ∃ R : V → Hp → Prop, (∀ H2, Ex H1 H2 → f (gV vs zs) H2 R) ∧ ∀ v H2, ExtN H H2 → Tabs T H2 → R v H2 → tz D (σ.set i (some v)) H2) : tSeq (tAsg (tCallN n m (spN T f) gV E0 ta tk) (gName i)) tz D σ H := v_calNKR h hT k
end
section
variable {P : Program} {w : World} {K : PySem.W.Frag} {mg : Str → Option Value} {base : Heap} {cG cR cL aF cC Pt : Addr}
abbrev st_law_told_right : Stmt := top 94
def nm_law_told_right : List Str := ["_law_plain", "_law_rules", "_law_ways", "_law_is_wrong", "_law_told", "_law_due", "_law_cost"]
theorem sc_law_told_right : FnScope nm_law_told_right ["_law_plain", "_law_rules", "_law_ways", "_law_is_wrong"] (defScope st_law_told_right) := ⟨rfl, rfl, rfl, by decide +kernel, rfl, by decide +kernel, by decide +kernel⟩
def fRight : List V → Hp → (V → Hp → Prop) → Prop := fun vs H R => ∃ (x y z : V) (r : Row) (u : Ru) (wr : Bool), vs = [x, y, z, .bl wr] ∧ PlainAt H x r ∧ RDictAt H y u ∧ LstR WayR H z (wfound r u r.length) ∧ MRow r ∧ BdU u ∧ R = fun v _ => v = .bl true
theorem ok_law_told_right (T : Tx K mg cG cR cL aF) (D : DefAt K mg "_law_told_right" "_law_told_right" "_law_told_right" st_law_told_right) (K_least : CalK P w K mg base "least_breaks" ["row", "rules", "wrong"] 9 (sp_least cG cR Pt) 2 ["wrong"] (fun vs zs => gA vs [] zs))
    (c_law_row_made : Cal P w K mg base "_law_row_made" ["_law_plain"] 6 (sp_law_row_made cG)) (c_law_rules_made : Cal P w K mg base "_law_rules_made" ["_law_plain"] 6 (sp_law_rules_made cR))
    (c_law_least_told : Cal P w K mg base "_law_least_told" ["_law_ways", "_law_is_wrong", "_law_looseness"] 1 sp_law_least_told) (c_law_way_cost : Cal P w K mg base "_law_way_cost" ["_law_plain", "_law_rules", "_law_way"] 4 sp_law_way_cost) :
    Cal P w K mg base "_law_told_right" ["_law_plain", "_law_rules", "_law_ways", "_law_is_wrong"] 10 (spN (Tt Pt) fRight) := by
  refine cal_of D sc_law_told_right (fun _ _ _ _ _ _ us hl => match us, hl with | [_, _, _, _], _ => rfl) (fun vs H Q E h => ?_) (fun f cdv A outer s H vs Q E hr h => ?_)
  · obtain ⟨R, ⟨x, y, z, r, u, wr, rfl, _⟩, _⟩ := h
    rfl
  · obtain ⟨R, ⟨x, y, z, r, u, wr, rfl, hx, hy, hz, hm, hu, rfl⟩, hT, k⟩ := h
    refine ⟨_, (pss_cons (ps_set (i := 4) sc_law_told_right.nd rfl (Or.inl rfl) (pe_calK K_least (hr.mono (by decide)) (pa_cons (pe_cal c_law_row_made (hr.mono (by decide)) (pa_cons (pv 0) pa_nil)) (pa_cons (pe_cal c_law_rules_made (hr.mono (by decide)) (pa_cons (pv 1) pa_nil)) pa_nil)) (pk_cons (pv 3) pk_nil)))
      (pss_cons (ps_set (i := 5) sc_law_told_right.nd rfl (Or.inl rfl) (pe_cal c_law_least_told (hr.mono (by decide)) (pa_cons (pv 2) (pa_cons (pv 3) (pa_cons (pe_dget hr.u1 (pv 1) pe_str (fun _ _ => rfl)) pa_nil)))))
      (pss_cons (ps_if (PW.pt (pw_or (pt_cmpR op_isN (pv 5) pe_non (nomark _)) (pw_or1 (pt_cmpR op_isN (pv 4) pe_non (nomark _))))) (pss_one (ps_ret (pe_and (pe_cmpR op_isN (pv 5) pe_non (nomark _)) (pe_one (pe_cmpR op_isN (pv 4) pe_non (nomark _)))))) pss_nil)
      (pss_cons (ps_set (i := 6) sc_law_told_right.nd rfl (Or.inl rfl) (pe_cal c_law_way_cost (hr.mono (by decide)) (pa_cons (pv 0) (pa_cons (pv 1) (pa_cons (pv 4) pa_nil)))))
      (pss_one (ps_ret (pe_and (pe_cmpR op_notN (pv 6) pe_non (nomark _)) (pe_and (pe_or (pv 3) (pe_one (pe_cmpR op_eq (pe_ix ix_tup (pv 6) pe_int (fun _ _ => rfl)) pe_int (nomark _)))) (pe_one (pe_cmpR (op_eqD hr.units) (pe_tup (pa_cons (pe_callB call_len_seq (by rfl) T.len_ (by decide +kernel) (pa_cons (pv 4) pa_nil)) (pa_cons (pv 6) pa_nil))) (pv 5) (nomark _))))))))))), ?_⟩
    have hbd := bd_of hm hu
    have h1r : 1 ≤ r.length := by have := hm.two; omega
    have h9 := hm.len
    refine q_calNKR (R0 := fun vs H' => ∃ x b, vs = [x, .ref b] ∧ RowAt cG H' x r ∧ RulesAt cR H' (.ref b) u) (ear_cons (ev_calR (ea_cons (ev_var rfl) ea_nil) fun H1 e1 => ⟨x, r, rfl, hx.mono e1, by omega, hm.its, rfl⟩) fun xv H1 e1 hxv => ear_cons (ev_calR (ea_cons (ev_var rfl) ea_nil) fun H2 e2 => ⟨y, u, rfl, hy.mono (e1.trans e2), hu, rfl⟩) fun bv H2 e2 hbv => ear_nil fun H3 e3 => by
        obtain ⟨b, dx, wa, rfl, hb⟩ := id hbv
        exact ⟨xv, b, rfl, hxv.mono (e2.trans e3), hbv.mono e3⟩) hT fun vs H1 e1 hvs => ?_
    obtain ⟨xv, b, rfl, hxv, hbv⟩ := hvs
    refine ⟨[.bl wr], ea_cons (ev_var rfl) ea_nil, rfl, rfl, _, fun H2 e2 => ⟨xv, b, r, u, wr, rfl, hxv.mono e2, hbv.mono e2, hbd, rfl⟩, fun tv H2 n2 t2 htold => ?_⟩
    have hx2 := hx.monoN n2
    have hy2 := hy.monoN n2
    have hz2 := ways_monoN n2 hz
    obtain ⟨ya, kvs, rfl, hya, hyd⟩ := id hy2
    have hlen : (wfound r u r.length).length ≤ 5000 := by
      have h3 := wcount2 (u := u) h1r r.length
      have : 2 ^ r.length ≤ 2 ^ 9 := Nat.pow_le_pow_right (by decide) h9
      have : (2 : Nat) ^ 9 = 512 := by decide
      omega
    refine q_asgR (ev_calR (ea_cons (ev_var rfl) (ea_cons (ev_var rfl) (ea_cons (ev_dget (k := .inr "looseness") (ev_var rfl) ev_c hya hyd.loose) ea_nil))) fun H3 e3 => ⟨z, _, wr, u.loose, rfl, LstR.mono wayR_mono e3 hz2, hlen, rfl⟩) fun dv H3 e3 hdue => ?_
    have n3 : ExtN H H3 := n2.trans (K51.ExtN.ofEx e3)
    have t3 := t2.ext e3
    have isN : ∀ {i : Nat} {H' : Hp} {x : V} {σ : L2.St}, σ[i]? = some (some x) → Ev (tOp (fun x y H Q => y = .non ∧ Q (.bl (decide (x = .non))) H) (tVar i) (tC .non)) σ H' (.bl (decide (x = .non))) := fun {i H' x σ} h => ev_op (ev_var h) ev_c rv_isN
    rcases htold with ⟨he, rfl⟩ | ⟨bs, many, least, wy, htd, hpath, htv⟩
    · have hS := (ends_nil h1r).mp he
      rcases hdue with ⟨_, rfl⟩ | ⟨bs', many', least', cv', hD, _⟩
      · refine q_when (b := true) (et_is (et_or (a := true) (b := true) (et_is (et_test (isN rfl)) (decide_eq_true rfl)) fun h => nomatch h) rfl) (fun _ H4 e4 => ?_) fun h => nomatch h
        exact s_ret (ev_is (ev_andV (a := true) (b := true) (ev_is (isN rfl) (by rfl)) fun _ => ev_is (isN rfl) (by rfl)) rfl) fun H5 e5 => k _ H5 (n3.trans (K51.ExtN.ofEx (e4.trans e5))) (t3.ext (e4.trans e5)) rfl
      · have := hD.b1
        rw [hS] at this
        cases this
    · rcases hdue with ⟨hS, _⟩ | ⟨bs', many', least', cv', hD, hdv, hcv'⟩
      · have := (ends_nil (u := u) (wr := wr) h1r).mpr hS
        have h5 := htd.b1
        rw [this] at h5
        cases h5
      · obtain ⟨hm1, hc1⟩ := told_due h1r htd hD
        have hend : isEnd r least = true := (ends_mem.mp htd.l1.1).2
        have hnum := path_num hpath
        have hwl : (wy.length : Int) = many' := by rw [← hnum, htd.l1.2, hm1]
        rw [hc1] at hpath
        obtain ⟨ta, rfl, hta⟩ := htv
        obtain ⟨da, rfl, hda⟩ := hdv
        refine q_when (b := false) (et_is (et_or (a := false) (b := false) (et_is (et_test (isN rfl)) (decide_eq_false fun h => nomatch h)) fun _ => et_is (et_test (isN rfl)) (decide_eq_false fun h => nomatch h)) rfl) (fun h => nomatch h) fun _ H4 e4 => ?_
        refine q_asgR (ev_calR (ea_cons (ev_var rfl) (ea_cons (ev_var rfl) (ea_cons (ev_var rfl) ea_nil))) fun H5 e5 => ⟨x, .ref ya, .ref ta, r, u, wr, least, least', wy, rfl, hx2.mono ((e3.trans e4).trans e5), hy2.mono ((e3.trans e4).trans e5), hbd, ⟨ta, rfl, e5 _ _ (e4 _ _ (e3 _ _ hta))⟩, hpath, hend, rfl⟩) fun cv H5 e5 hcv => ?_
        obtain ⟨ca, rfl, hca⟩ := hcv
        refine s_ret (ev_is (ev_andV (a := true) (b := true) (ev_is (ev_op (ev_var rfl) ev_c rv_notN) ?_) fun _ => ev_andV (a := true) (b := true) (ev_is (ev_orV (a := wr) (b := decide (V.int least'.1 = V.int 0)) (ev_var rfl) fun _ => ev_op (ev_ixT (ev_var rfl) ev_c hca at0) ev_c (rv_eq rfl)) ?_) fun _ => ev_ofR ?_) rfl) fun H6 e6 => k _ H6 (n3.trans (K51.ExtN.ofEx ((e4.trans e5).trans e6))) (t3.ext ((e4.trans e5).trans e6)) rfl
        · rfl
        · cases wr with
          | true => rfl
          | false =>
            rw [path_zero hpath, decide_eq_true (rfl : V.int 0 = V.int 0)]
            rfl
        · refine er_opR (R1 := fun v H' => ∃ cv, TupAt H' v [.int many', cv] ∧ TupAt H' cv (costV least')) (er_imp (er_tup (ea_cons (ev_is (ev_lenS (ev_var rfl) (.inr (st_of (e5 _ _ (e4 _ _ (e3 _ _ hta)))))) (by rw [List.length_map, hwl])) (ea_cons (ev_var rfl) ea_nil)) (by show 2 ≤ 100000; decide)) fun v H6 e6 h6 => ⟨_, h6, ⟨ca, rfl, e6 _ _ hca⟩⟩) (ev_var rfl) fun v H6 e6 ⟨cv, h1, h2⟩ => ⟨.bl true, ?_, fun _ _ => rfl⟩
          exact rv_val fun H7 e7 Q q => ⟨dueD many' least', dueD many' least', dueD_dp (h1.mono e7) (h2.mono e7), dueD_dp ⟨da, rfl, e7 _ _ (e6 _ _ (e5 _ _ (e4 _ _ hda)))⟩ (hcv'.mono (((e4.trans e5).trans e6).trans e7)), dueD_sh _ _, dueD_sh _ _, by rw [dueD_eq]; exact q⟩
end
end K51
set_option Elab.async false
set_option linter.all false
set_option maxRecDepth 100000
set_option maxHeartbeats 4000000
namespace K51
open PySem PySem.Spec PyProof.Rows L2 Evl LamX
/-- all but d and the tables stays -/
def XN (d : Addr) (H H' : Hp) : Prop := ∀ a o, a ≠ d → H a = some o → (∀ ps, o ≠ .tbl ps) → H' a = some o
theorem XN.of {d : Addr} {H H' : Hp} (e : XD d H H') : XN d H H' := fun a o n h _ => e a o n h
theorem XN.ofN {d : Addr} {H H' : Hp} (e : ExtN H H') : XN d H H' := fun a o _ h t => e a o h t
theorem XN.trans {d : Addr} {H H1 H2 : Hp} (a : XN d H H1) (b : XN d H1 H2) : XN d H H2 := fun c o n h t => b c o n (a c o n h t) t
theorem DiceH.monoN {d : Addr} {H H' : Hp} (e : ExtN H H') (h : DiceH H d) : DiceH H' d := by
  obtain ⟨a, b, c, h⟩ := h
  exact ⟨a, b, c, e _ _ h fun ps z => nomatch z⟩
theorem tabs_xd {T : List (Addr × Str)} {d : Addr} {H H' : Hp} (t : Tabs T H) (dd : DiceH H d) (x : XD d H H') : Tabs T H' := fun p hp => by
  obtain ⟨_, _, _, hd⟩ := dd
  obtain ⟨ps, h1, h2, h3⟩ := t p hp
  have n1 : p.1 ≠ d := fun z => by
    rw [z, hd] at h1
    cases h1
  refine ⟨ps, x _ _ n1 h1, h2, fun pos cv hc => ?_⟩
  obtain ⟨c, e1, e2⟩ := h3 pos cv hc
  have n2 : c ≠ d := fun z => by
    rw [z, hd] at e2
    cases e2
  exact ⟨c, e1, x _ _ n2 e2⟩
def rd10 (a b c d e f g h i j : V) : List (Key × V) := mergeK [] (rd9 a b c d e f g h i ++ [(.inr "looseness", j)])
theorem rd10_wid (a b c d e f g h i j : V) : valV (rd10 a b c d e f g h i j) (.inr "widths") = some a := by kernel_rfl
theorem rd10_tol (a b c d e f g h i j : V) : valV (rd10 a b c d e f g h i j) (.inr "tolerance") = some b := by kernel_rfl
theorem rd10_line (a b c d e f g h i j : V) : valV (rd10 a b c d e f g h i j) (.inr "line") = some c := by kernel_rfl
theorem rd10_hyp (a b c d e f g h i j : V) : valV (rd10 a b c d e f g h i j) (.inr "hyphen") = some d := by kernel_rfl
theorem rd10_unl (a b c d e f g h i j : V) : valV (rd10 a b c d e f g h i j) (.inr "unlike") = some e := by kernel_rfl
theorem rd10_dbl (a b c d e f g h i j : V) : valV (rd10 a b c d e f g h i j) (.inr "double") = some f := by kernel_rfl
theorem rd10_last (a b c d e f g h i j : V) : valV (rd10 a b c d e f g h i j) (.inr "last") = some g := by kernel_rfl
theorem rd10_room (a b c d e f g h i j : V) : valV (rd10 a b c d e f g h i j) (.inr "room") = some h := by kernel_rfl
theorem rd10_loose (a b c d e f g h i j : V) : valV (rd10 a b c d e f g h i j) (.inr "looseness") = some j := by kernel_rfl
theorem rd9_len (a b c d e f g h i : V) : (rd9 a b c d e f g h i).length = 9 := by kernel_rfl
abbrev rdF (wa : Addr) (u : Ru) (l : Int) : List (Key × V) := rd10 (.ref wa) (.int u.tol) (.int u.line) (.int u.hyp) (.int u.unl) (.int u.dbl) (.int u.last) (.int u.room) (.int u.loose) (.int l)
theorem rdF_at {H : Hp} {p wa : Addr} {u : Ru} {l : Int} (h : H p = some (.dK (rdF wa u l))) (hw : H wa = some (.tup (u.ws.map V.int))) : RDictAt H (.ref p) (u.far l) :=
  ⟨p, _, rfl, h, ⟨⟨wa, rd10_wid .., hw⟩, rd10_tol .., rd10_line .., rd10_hyp .., rd10_unl .., rd10_dbl .., rd10_last .., rd10_room .., rd10_loose ..⟩⟩
theorem paired_hd {α β : Type} {R : α → β → Prop} {x : α} {xs : List α} {ys : List β} (h : Paired R (x :: xs) ys) : ∃ y, R x y := by
  cases h with
  | cons a b => exact ⟨_, a⟩
theorem paired_ints {xs : List V} {ns : List Int} (h : Paired (fun v (n : Int) => v = .int n) xs ns) : xs = ns.map V.int := by
  induction h with
  | nil => rfl
  | cons a b ih => rw [List.map_cons, a, ih]
theorem RD9.monoXD {d : Addr} {H H' : Hp} {v : V} {u : Ru} (x : XD d H H') (dd : DiceH H d) (h : RD9 H v u) : RD9 H' v u := by
  obtain ⟨p, wa, h1, h2, h3⟩ := h
  obtain ⟨_, _, _, hd⟩ := dd
  refine ⟨p, wa, h1, x _ _ (fun z => ?_) h2, x _ _ (fun z => ?_) h3⟩
  · rw [z, hd] at h2
    cases h2
  · rw [z, hd] at h3
    cases h3
theorem BdU.far {u : Ru} {l : Int} (h : BdU u) (hl : -100 ≤ l ∧ l ≤ 100) : BdU (u.far l) := ⟨h.wl, h.ws, h.tol, h.line, h.hyp, h.unl, h.dbl, h.last, h.room, hl⟩
section
variable {K : PySem.W.Frag} {T : List (Addr × Str)} {d : Addr} {σ : L2.St} {H : Hp} {te tp : TE} {ta tb : TA} {D : Ends} {tz tu : TS}
theorem q_twoN {f : List V → Hp → (V → Hp → Prop) → Prop} {vs ws : List V} (h1 : EvA ta σ H vs) (hf1 : ∀ H1, Ex H H1 → f vs H1 fun v _ => v = .bl true) (h2 : ∀ H1, ExtN H H1 → EvA tb σ H1 ws) (hf2 : ∀ H1, ExtN H H1 → f ws H1 fun v _ => v = .bl true) (hT : Tabs T H)
    (k : ∀ H1, ExtN H H1 → Tabs T H1 → tz D σ H1) : tSeq (tIfS (tOr (tNot (tB (tCall (spN T f) [] E0 ta))) (tNot (tB (tCall (spN T f) [] E0 tb)))) tu tNext) tz D σ H :=
  v_calN h1 hf1 hT fun v H1 n1 t1 hv => ⟨true, hv, by
    show tCall (spN T f) [] E0 tb σ H1 fun x H2 => ∃ c, x = .bl c ∧ (if (!c) = true then tu { D with nx := tz D } σ H2 else tNext { D with nx := tz D } σ H2)
    exact v_calN (h2 H1 n1) (fun H2 e2 => hf2 H2 (n1.trans (K51.ExtN.ofEx e2))) t1 fun v2 H2 n2 t2 hv2 => ⟨true, hv2, by
      show tz D σ H2
      exact k H2 (n1.trans n2) t2⟩⟩
theorem ev_maxL {a : Addr} {ns : List Int} {m : Int} (h : Ev te σ H (.ref a)) (ha : H a = some (.lst (ns.map V.int))) (hm : m ∈ ns) (hb : ∀ y ∈ ns, y ≤ m) : Ev (tCB (rMax K) (tCons te tNil)) σ H (.int m) := fun H1 e Q q =>
  h H1 e _ fun H2 e2 => ⟨a, ns, rfl, sq_of (e2 _ _ (e _ _ ha)), List.length_pos_of_mem hm, fun m' h1 h2 => by
    have e1 := h2 m hm
    have e3 := hb m' h1
    have e4 : m' = m := by omega
    rw [e4]
    exact q H2 e2⟩
theorem ev_minL {a : Addr} {ns : List Int} {m : Int} (h : Ev te σ H (.ref a)) (ha : H a = some (.lst (ns.map V.int))) (hm : m ∈ ns) (hb : ∀ y ∈ ns, m ≤ y) : Ev (tCB (rMin K) (tCons te tNil)) σ H (.int m) := fun H1 e Q q =>
  h H1 e _ fun H2 e2 => ⟨a, ns, rfl, sq_of (e2 _ _ (e _ _ ha)), List.length_pos_of_mem hm, fun m' h1 h2 => by
    have e1 := h2 m hm
    have e3 := hb m' h1
    have e4 : m' = m := by omega
    rw [e4]
    exact q H2 e2⟩
theorem ex_lst {R : List V → Hp → Prop} (h : EaX d ta σ H R) (hm : ∀ vs H1 H2, TpX H1 H2 → R vs H1 → vs.length ≤ 100000 ∧ R vs H2) : EvX d (tLst ta) σ H fun v H' => ∃ vs, LstAt H' v vs ∧ R vs H' := fun H1 x dd Q q =>
  h H1 x dd _ fun vs H2 x2 d2 r => ⟨sz_of (hm vs H2 H2 (fun _ _ h => h) r).1, fun p hp => q _ _ (x2.trans (.of (Ex.new hp))) (d2.mono (Ex.new hp)) ⟨vs, ⟨p, rfl, upd_same⟩, (hm vs H2 _ (.of (Ex.new hp)) r).2⟩⟩
abbrev rDictP (K : PySem.W.Frag) : List V → Hp → VK → Prop := fun xs H Q => ∃ (a : Addr) (ps : List Addr) (kvs : List (Key × V)), xs = [.ref a] ∧ SqL K H a (ps.map V.ref) ∧ Paired (fun p kv => SqT K H p [kV kv.1, kv.2]) ps kvs ∧ ∀ p, H p = none → Q (.ref p) (upd H p (.dK (mergeK [] kvs)))
/-- dict(list(d.items()) + [(k, pick)]) -/
theorem ex_more {a : Addr} {kvs : List (Key × V)} {k : Str} {Pn : Int → Prop} (d0 : DiceH H d) (ha : ∀ H1, XD d H H1 → Ev te σ H1 (.ref a)) (hk : H a = some (.dK kvs)) (hl : kvs.length ≤ 100) (hp : ∀ H1, XD d H H1 → EvX d tp σ H1 fun v _ => ∃ i : Int, v = .int i ∧ Pn i) :
    EvX d (tCB (rDictP K) (tCons (tOp rCat (LiI.tListItems te) (tLst (tCons (tTup (tCons (tC (.str k)) (tCons tp tNil))) tNil))) tNil)) σ H fun v H' => ∃ (p : Addr) (i : Int), v = .ref p ∧ H' p = some (.dK (mergeK [] (kvs ++ [(.inr k, .int i)]))) ∧ Pn i := fun H1 x dd Q q => by
  have had : a ≠ d := fun z => by
    obtain ⟨_, _, _, hd⟩ := d0
    rw [z, hd] at hk
    cases hk
  refine ha H1 x H1 (Ex.refl H1) _ fun H2 e2 => ⟨a, kvs, rfl, e2 _ _ (x _ _ had hk), fun H3 l ts e3 hl0 hts hlt hl3 hpair => ?_⟩
  have d2 := dd.mono e2
  have d3 := d2.mono e3
  have ld : l ≠ d := fun z => by
    obtain ⟨_, _, _, hd⟩ := d2
    rw [z, hd] at hl0
    cases hl0
  have x3 : XD d H H3 := x.trans (.of (Ex.trans e2 e3))
  have htl := paired_len hpair
  refine ex_lst (d := d) (σ := σ) (H := H3) (R := fun vs H' => ∃ tv, vs = [tv] ∧ ∃ i : Int, TupAt H' tv [.str k, .int i] ∧ Pn i) (eax_cons (ex_and (ex_tup (d := d) (σ := σ) (H := H3) (R := fun vs _ => ∃ i : Int, vs = [.str k, .int i] ∧ Pn i) (eax_cons (R1 := fun v _ => v = .str k) (ex_ev (fun _ _ => ev_c) fun _ _ => rfl) fun v H4 x4 hv => eax_cons (hp H4 (x3.trans x4)) fun v5 H5 x5 ⟨i, hv5, hi⟩ => eax_nil fun H6 x6 => ⟨i, by rw [hv, hv5], hi⟩) (fun vs H1 H2 _ ⟨i, h1, h2⟩ => ⟨by rw [h1]; show 2 ≤ 100000; decide, i, h1, h2⟩))) fun v H4 x4 hv => ?_) (fun vs H1 H2 t ⟨tv, h1, i, h2, h3⟩ => ⟨by rw [h1]; show 1 ≤ 100000; decide, tv, h1, i, h2.monoX t, h3⟩) H3 (XD.refl d H3) d3 _ fun v H4 x4 d4 ⟨vs, ⟨b, hv, hb⟩, tv, hvs, i, ⟨ta, hta, hta4⟩, hi⟩ => ?_
  · obtain ⟨⟨vs, htv, i, rfl, hi⟩, d4⟩ := hv
    exact eax_nil fun H5 x5 => ⟨v, rfl, i, htv.monoX (.ofD x5 d4), hi⟩
  refine ⟨l, b, ts.map V.ref, [tv], rfl, hv, x4 _ _ ld hl3, by rw [hb, hvs], ?_, fun p hp0 => ?_⟩
  · rw [List.length_map, htl]
    exact sz_of (by show kvs.length + 1 ≤ 100000; omega)
  · have e6 : Ex H4 (upd H4 p (.lst (ts.map V.ref ++ [tv]))) := Ex.new hp0
    refine ⟨p, ts ++ [ta], kvs ++ [(.inr k, .int i)], rfl, sq_of (by rw [upd_same, List.map_append, hta]; rfl), PySem.Paired.snoc (Paired.mapP hpair fun t kv ht => ?_) ?_, fun p' hp' => q _ _ ((XD.of (Ex.trans e2 e3)).trans (x4.trans (.of (e6.trans (Ex.new hp'))))) (d4.mono (e6.trans (Ex.new hp'))) ⟨p', i, rfl, upd_same, hi⟩⟩
    · refine st_of (e6 _ _ (x4 _ _ (fun z => ?_) ht))
      obtain ⟨_, _, _, hd⟩ := d3
      rw [z, hd] at ht
      cases ht
    · exact st_of (e6 _ _ hta4)
end
section
variable {P : Program} {w : World} {K : PySem.W.Frag} {mg : Str → Option Value} {base : Heap} {cG cR cL aF cC Pt : Addr}
abbrev st_law_right : Stmt := top 95
def nm_law_right : List Str := ["_law_dice_here", "_law_plain", "_law_rules", "_law_ways", "_law_far", "_law_many", "_law_told", "_law_way", "_law_cost"]
theorem sc_law_right : FnScope nm_law_right ["_law_dice_here"] (defScope st_law_right) := ⟨rfl, rfl, rfl, by decide +kernel, rfl, by decide +kernel, by decide +kernel⟩
def sp_law_right (Pt : Addr) : Sp := fun vs H Q _ => ∃ d, vs = [.ref d] ∧ DiceH H d ∧ Tabs (Tt Pt) H ∧ ∀ H2, XN d H H2 → DiceH H2 d → Tabs (Tt Pt) H2 → Q (.bl true) H2
theorem ok_law_right (T : Tx K mg cG cR cL aF) (D : DefAt K mg "_law_right" "_law_right" "_law_right" st_law_right) (K_least : CalK P w K mg base "least_breaks" ["row", "rules", "wrong"] 9 (sp_least cG cR Pt) 2 ["wrong"] (fun vs zs => gA vs [] zs))
    (c_law_row_made : Cal P w K mg base "_law_row_made" ["_law_plain"] 6 (sp_law_row_made cG)) (c_law_rules_made : Cal P w K mg base "_law_rules_made" ["_law_plain"] 6 (sp_law_rules_made cR)) (c_law_pick : Cal P w K mg base "_law_pick" ["_law_dice_here", "_law_items"] 2 (spDice fPick))
    (c_law_measured : Cal P w K mg base "_law_measured" ["_law_dice_here", "_law_most"] 3 (spDice fMeas)) (c_law_rules_drawn : Cal P w K mg base "_law_rules_drawn" ["_law_dice_here"] 3 (spDice fDrawn)) (c_law_all_ways : Cal P w K mg base "_law_all_ways" ["_law_plain", "_law_rules"] 4 sp_law_all_ways)
    (c_law_told_right : Cal P w K mg base "_law_told_right" ["_law_plain", "_law_rules", "_law_ways", "_law_is_wrong"] 10 (spN (Tt Pt) fRight)) : Cal P w K mg base "_law_right" ["_law_dice_here"] 11 (sp_law_right Pt) := by
  refine cal_of D sc_law_right (fun _ _ _ _ _ _ us hl => match us, hl with | [_], _ => rfl) (fun vs H Q E h => ?_) (fun f cdv A outer s H vs Q E hr h => ?_)
  · obtain ⟨d, rfl, _⟩ := h
    rfl
  · obtain ⟨d, rfl, hdd, hT, k⟩ := h
    refine ⟨_, (pss_cons (ps_par (i := 1) (j := 2) (by rfl) sc_law_right.nd rfl rfl (by decide) rfl rfl (pa_cons (pe_cal c_law_measured (hr.mono (by decide)) (pa_cons (pv 0) (pa_cons pe_int pa_nil))) (pa_cons (pe_cal c_law_rules_drawn (hr.mono (by decide)) (pa_cons (pv 0) pa_nil)) pa_nil)) (by rfl))
      (pss_cons (ps_set (i := 3) sc_law_right.nd rfl (Or.inl rfl) (pe_cal c_law_all_ways (hr.mono (by decide)) (pa_cons (pv 1) (pa_cons (pv 2) pa_nil))))
      (pss_cons (ps_if (PW.pt (pw_or (pt_not (pt_val (pe_cal c_law_told_right (hr.mono (by decide)) (pa_cons (pv 1) (pa_cons (pv 2) (pa_cons (pv 3) (pa_cons pe_bl pa_nil))))))) (pw_or1 (pt_not (pt_val (pe_cal c_law_told_right (hr.mono (by decide)) (pa_cons (pv 1) (pa_cons (pv 2) (pa_cons (pv 3) (pa_cons pe_bl pa_nil)))))))))) (pss_one (ps_ret pe_bl)) pss_nil)
      (pss_cons (ps_set (i := 4) sc_law_right.nd rfl (Or.inl rfl) (pe_callTy (call_dictP rfl) (by rfl) T.dict_ (by decide +kernel) (pa_cons (pe_op op_cat (LiI.pe_listItems rfl (pv 2) (by rfl) T.list_ (by decide +kernel)) (pe_lst (pa_cons (pe_tup (pa_cons pe_str (pa_cons (pe_cal c_law_pick (hr.mono (by decide)) (pa_cons (pv 0) (pa_cons (pe_lst (pa_cons pe_int (pa_cons (pe_un un_neg pe_int) pa_nil))) pa_nil))) pa_nil))) pa_nil))) pa_nil)))
      (pss_cons (ps_setLc (i := 5) (own := [("_law_way", 7), ("_law_cost", 8)]) rfl sc_law_right.nd rfl rfl (sw_true rfl rfl rfl (by decide +kernel)) (pi_list (pv 3)) (blkOk_by (own := [("_law_way", 7), ("_law_cost", 8)]) (N := nm_law_right) (sc := defScope st_law_right) (by decide +kernel)) (fun _ _ _ _ _ => (pg_tupK (K := K) (n := 2) rfl (pg_tup rfl (pgs_cons (pg_name (i := 7) sc_law_right.nd rfl (Or.inl rfl)) (pgs_cons (pg_name (i := 8) sc_law_right.nd rfl (Or.inl rfl)) pgs_nil))))) (fun _ _ _ _ _ => pts_nil) (fun _ _ _ _ _ => (pe_callB (call_len_seqK (K := K) rfl) (by rfl) T.len_ (by decide +kernel) (pa_cons (pv 7) pa_nil))))
      (pss_cons (ps_set (i := 6) sc_law_right.nd rfl (Or.inl rfl) (pe_calK K_least (hr.mono (by decide)) (pa_cons (pe_cal c_law_row_made (hr.mono (by decide)) (pa_cons (pv 1) pa_nil)) (pa_cons (pe_cal c_law_rules_made (hr.mono (by decide)) (pa_cons (pv 4) pa_nil)) pa_nil)) (pk_cons pe_bl pk_nil)))
      (pss_one (ps_ret (pe_cmpR op_eq (pe_callB call_len_seq (by rfl) T.len_ (by decide +kernel) (pa_cons (pv 6) pa_nil)) (pe_ifExp (pt_cmpR op_gt (pe_dget hr.u1 (pv 4) pe_str (fun _ _ => rfl)) pe_int (nomark _)) (pe_callB (cr_max rfl) (by rfl) T.max_ (by decide +kernel) (pa_cons (pv 5) pa_nil)) (pe_callB (cr_min rfl) (by rfl) T.min_ (by decide +kernel) (pa_cons (pv 5) pa_nil))) (nomark _)))))))))), ?_⟩
    refine x_par (d := d) (R := fun vs H' => ∃ l ws r y u, vs = [.ref l, y] ∧ l ≠ d ∧ H' l = some (.lst ws) ∧ ItsAt GTup H' ws r ∧ MRow r ∧ RD9 H' y u ∧ BdU u) hdd (eax_cons (R1 := fun v H2 => (∃ l ws r, v = .ref l ∧ l ≠ d ∧ H2 l = some (.lst ws) ∧ ItsAt GTup H2 ws r ∧ MRow r) ∧ DiceH H2 d) (ex_and (ex_dice (fun H1 x1 => ea_cons (ev_var rfl) (ea_cons ev_c ea_nil)) fun H1 x1 => ⟨rfl, rfl⟩)) fun v H1 x1 ⟨⟨l, ws, r, hv, nl, hl, hi, hm⟩, d1⟩ => eax_cons (R1 := fun v H2 => (∃ u, RD9 H2 v u ∧ BdU u) ∧ DiceH H2 d) (ex_and (ex_dice (fun H2 x2 => ea_cons (ev_var rfl) ea_nil) fun H2 x2 => ⟨rfl, rfl⟩)) fun y H2 x2 ⟨⟨u, hy, hu⟩, d2⟩ => eax_nil fun H3 x3 => ?_) fun vs H1 x1 d1 hvs => ?_
    · exact ⟨l, ws, r, y, u, by rw [hv], nl, x3 _ _ nl (x2 _ _ nl hl), Paired.mapP hi fun _ _ q => q.monoX (.ofD (x2.trans x3) d1), hm, hy.monoXD x3 d2, hu⟩
    obtain ⟨l, ws, r, y, u, rfl, nl, hl, hi, hm, hy, hu⟩ := hvs
    refine ⟨_, _, rfl, ?_⟩
    have t1 := tabs_xd hT hdd x1
    have hbd := bd_of hm hu
    have h1r : 1 ≤ r.length := by have := hm.two; omega
    have h9 := hm.len
    have hp1 : PlainAt H1 (.ref l) r := ⟨l, ws, rfl, hl, hi⟩
    refine q_asgR (ev_calR (ea_cons (ev_var rfl) (ea_cons (ev_var rfl) ea_nil)) fun H2 e2 => ⟨.ref l, y, r, u, rfl, hp1.mono e2, hy.rd.mono e2, hbd, rfl⟩) fun zv H2 e2 hz => ?_
    have n2 : ExtN H1 H2 := .of e2
    have aR : ∀ H3, ExtN H2 H3 → ∀ wr, fRight [.ref l, y, zv, .bl wr] H3 fun v _ => v = .bl true := fun H3 n3 wr => ⟨.ref l, y, zv, r, u, wr, rfl, hp1.monoN (n2.trans n3), hy.rd.monoN (n2.trans n3), ways_monoN n3 hz, hm, hu, rfl⟩
    refine q_twoN (ea_cons (ev_var rfl) (ea_cons (ev_var rfl) (ea_cons (ev_var rfl) (ea_cons ev_c ea_nil)))) (fun H3 e3 => aR H3 (.of e3) false) (fun H3 n3 => ea_cons (ev_var rfl) (ea_cons (ev_var rfl) (ea_cons (ev_var rfl) (ea_cons ev_c ea_nil)))) (fun H3 n3 => aR H3 n3 true) (t1.ext e2) fun H3 n3 t3 => ?_
    have hz3 := ways_monoN n3 hz
    have hp3 := hp1.monoN (n2.trans n3)
    have hy3 := hy.monoN (n2.trans n3)
    have d3 : DiceH H3 d := d1.monoN (n2.trans n3)
    obtain ⟨p, wa, rfl, hp, hwa⟩ := hy3
    obtain ⟨za, zacc, rfl, hza, hzp⟩ := hz3
    obtain ⟨_, ws', hll, hl3, hi3⟩ := hp3
    cases hll
    have nz : za ≠ d := fun z => by
      obtain ⟨l0, l1, l2, hd⟩ := d3
      rw [z, hd] at hza
      cases hza
      obtain ⟨_, _, _, ⟨_, h, _⟩, _⟩ := paired_hd hzp
      cases h
    have nw : wa ≠ d := fun z => by
      obtain ⟨l0, l1, l2, hd⟩ := d3
      rw [z, hd] at hwa
      cases hwa
    refine x_asg (d := d) d3 (ex_more (Pn := fun i => i = 100 ∨ i = -100) d3 (fun H4 x4 => ev_var rfl) hp (by rw [rd9_len]; decide) fun H4 x4 H5 x5 dd Q q => ex_pick (ns := [100, -100]) rfl (fun H1 => ea_cons ev_c (ea_cons (ev_un ev_c ru_neg) ea_nil)) ⟨by decide, by decide⟩ H5 x5 dd Q fun v H6 x6 d6 ⟨i, hi, hv⟩ => q v H6 x6 d6 ⟨i, hv, by simpa using hi⟩) fun fv H4 x4 d4 hfv => ?_
    obtain ⟨fa, fl, rfl, hfa, hfl⟩ := hfv
    have tx4 : TpX H3 H4 := .ofD x4 d3
    have hza4 := x4 _ _ nz hza
    have hl4 := x4 _ _ nl hl3
    have hi4 : ItsAt GTup H4 ws' r := Paired.mapP hi3 fun _ _ q => q.monoX tx4
    have hzp4 : Paired (WayR H4) zacc (wfound r u r.length) := Paired.mapP hzp fun _ _ q => wayR_monoX tx4 q
    have hf4 : RDictAt H4 (.ref fa) (u.far fl) := rdF_at hfa (tx4 _ _ hwa)
    have hu4 : BdU (u.far fl) := hu.far (by omega)
    have t4 := tabs_xd t3 d3 x4
    have hzl := paired_len hzp4
    have hlen : (wfound r u r.length).length ≤ 5000 := by
      have h3 := wcount2 (u := u) h1r r.length
      have : 2 ^ r.length ≤ 2 ^ 9 := Nat.pow_le_pow_right (by decide) h9
      have : (2 : Nat) ^ 9 = 512 := by decide
      omega
    refine q_asgR (R := fun v H' => ∃ ma, v = .ref ma ∧ H' ma = some (.lst (((wfound r u r.length).map fun y => (y.1.length : Int)).map V.int))) (er_imp (er_lcL (R := fun _ v (n : Int) => v = .int n) (fun _ _ _ _ _ h => h) (xs := zacc) (fun i => ((wfound r u r.length).take i).map fun y => (y.1.length : Int)) rfl (fun i => by rw [List.length_map, List.length_take]; omega) (er_of (ev_var rfl) fun H5 e5 => ⟨za, rfl, e5 _ _ hza4⟩) ?_) fun v H5 _ h => ?_) fun mv H5 e5 hmv => ?_
    · intro i z H5 e5 hz
      obtain ⟨y, hy, hw⟩ := L2.paired_get hzp4 hz
      obtain ⟨wv, cv, h1, ⟨wb, rfl, hwb⟩, h3⟩ := wayR_mono _ _ _ _ (.of e5) hw
      refine turn_two h1 rfl (b := true) et_yes (fun _ => ⟨(y.1.length : Int), er_of (ev_is (ev_lenS (ev_var rfl) (.inr (st_of hwb))) (by rw [List.length_map])) fun _ _ => rfl, ?_⟩) fun h => nomatch h
      rw [List.take_succ, hy, List.map_append]
      rfl
    · rw [hzl, List.take_length] at h
      obtain ⟨ma, acc, h1, h2, h3⟩ := h
      refine ⟨ma, h1, ?_⟩
      rw [h2]
      congr 2
      exact paired_ints h3
    obtain ⟨ma, rfl, hma⟩ := hmv
    have hp5 : PlainAt H5 (.ref l) r := ⟨l, ws', rfl, e5 _ _ hl4, hi4.mono gTup_mono e5⟩
    have hf5 := hf4.mono e5
    refine q_calNKR (R0 := fun vs H' => ∃ x b, vs = [x, .ref b] ∧ RowAt cG H' x r ∧ RulesAt cR H' (.ref b) (u.far fl)) (ear_cons (ev_calR (ea_cons (ev_var rfl) ea_nil) fun H1 e1 => ⟨_, r, rfl, hp5.mono e1, by omega, hm.its, rfl⟩) fun xv H1 e1 hxv => ear_cons (ev_calR (ea_cons (ev_var rfl) ea_nil) fun H2 e2 => ⟨_, u.far fl, rfl, hf5.mono (e1.trans e2), hu4, rfl⟩) fun bv H2 e2 hbv => ear_nil fun H3 e3 => by
        obtain ⟨b, dx, wa, rfl, hb⟩ := id hbv
        exact ⟨xv, b, rfl, hxv.mono (e2.trans e3), hbv.mono e3⟩) (t4.ext e5) fun vs H6 e6 hvs => ?_
    obtain ⟨xv, b, rfl, hxv, hbv⟩ := hvs
    refine ⟨[.bl true], ea_cons ev_c ea_nil, rfl, rfl, _, fun H7 e7 => ⟨xv, b, r, u.far fl, true, rfl, hxv.mono e7, hbv.mono e7, bd_of hm hu4, rfl⟩, fun tv H7 n7 t7 htold => ?_⟩
    rcases htold with ⟨he, _⟩ | ⟨bs, many, least, wy, htd, hpath, ⟨ta, rfl, hta⟩⟩
    · obtain ⟨y0, hy0⟩ := List.exists_mem_of_ne_nil _ (found_ne (u := u) hm.ok)
      obtain ⟨x0, hx0, _⟩ := far_len (l := fl) h1r hy0
      rw [he] at hx0
      cases hx0
    · obtain ⟨⟨y0, hy0, hy1⟩, hall⟩ := far_told h1r (by omega) htd hfl
      have hwl : (wy.length : Int) = many := by rw [← path_num hpath, htd.l1.2]
      have hma7 := n7 _ _ hma fun ps z => nomatch z
      obtain ⟨_, kvs7, hfa7', hfa7, hfd7⟩ := hf5.monoN n7
      cases hfa7'
      have hm1 : many ∈ (wfound r u r.length).map fun y => (y.1.length : Int) := List.mem_map.mpr ⟨y0, hy0, hy1⟩
      refine s_ret (ev_is (ev_op (ev_lenS (ev_var rfl) (.inr (st_of hta))) (ev_if (b := decide (0 < fl)) (et_test (ev_op (ev_dget (k := .inr "looseness") (ev_var rfl) ev_c hfa7 hfd7.loose) ev_c rv_I0)) (fun hb => ev_maxL (m := many) (ev_var rfl) hma7 hm1 fun z hz => ?_) fun hb => ev_minL (m := many) (ev_var rfl) hma7 hm1 fun z hz => ?_) (rv_eq rfl)) ?_) fun H8 e8 => k H8 ?_ ?_ (t7.ext e8)
      · obtain ⟨y2, hy2, rfl⟩ := List.mem_map.mp hz
        have := hall y2 hy2
        rw [if_pos (of_decide_eq_true hb)] at this
        exact this
      · obtain ⟨y2, hy2, rfl⟩ := List.mem_map.mp hz
        have := hall y2 hy2
        rw [if_neg (of_decide_eq_false hb)] at this
        exact this
      · rw [List.length_map, hwl, decide_eq_true rfl]
      · exact ((XN.of x1).trans (.ofN (n2.trans n3))).trans ((XN.of x4).trans (.ofN ((ExtN.of e5).trans (n7.trans (.of e8)))))
      · exact (((d4.mono e5).monoN n7).mono e8)
end
end K51
set_option linter.all false
set_option maxHeartbeats 4000000
set_option maxRecDepth 100000
/-! The law's fixed rows. -/
namespace K51
def rowX : Row := [.box 30, .glue 10 5 0 3, .box 40, .glue 10 5 0 3, .box 20, .part 6 0 0, .box 20, .pen 10000, .glue 0 1 1 0, .pen (-10000)]
def ruX (ws : List Int) (tol : Int) : Ru := ⟨ws, tol, 10, 50, 10000, 10000, 5000, 0, 0⟩
def rowY : Row := [.box 3, .pen (-10000)]
abbrev zeros (ys : List (List Int × Cost)) : List (List Int) := (ys.filter fun y => decide (y.2.1 = 0)).map fun y => y.1
theorem way_A : zeros (wfound rowX (ruX [80] 1000) rowX.length) = [[3, 9]] := by decide +kernel
theorem way_B : zeros (wfound rowX (ruX [25] 0) rowX.length) = [] := by decide +kernel
theorem way_C : zeros (wfound rowY (ruX [3] 200) rowY.length) = [[1]] := by decide +kernel
theorem zeros_mem {r : Row} {u : Ru} (h2 : 1 ≤ r.length) {x : Nd} {c : Cost} {w : List Int} (hp : Path r u false x c w) (he : isEnd r x = true) : w ∈ zeros (wfound r u r.length) :=
  List.mem_map.mpr ⟨(w, c), List.mem_filter.mpr ⟨found_all h2 (path_true hp) he, decide_eq_true (path_zero hp)⟩, rfl⟩
theorem zeros_some (ys : List (List Int × Cost)) : someOf false ys = [] ↔ zeros ys = [] := by
  unfold someOf zeros
  rw [List.map_eq_nil_iff, List.map_eq_nil_iff]
  exact Iff.rfl
theorem it_bdX : ∀ x ∈ rowX, x.Ok := by
  intro x hx
  simp only [rowX, List.mem_cons, List.not_mem_nil, or_false] at hx
  rcases hx with rfl | rfl | rfl | rfl | rfl | rfl | rfl | rfl | rfl | rfl <;> simp [It.Ok, It.Bd]
theorem it_bdY : ∀ x ∈ rowY, x.Ok := by
  intro x hx
  simp only [rowY, List.mem_cons, List.not_mem_nil, or_false] at hx
  rcases hx with rfl | rfl <;> simp [It.Ok, It.Bd]
theorem bdu_X {ws : List Int} {tol : Int} (h : ws.length = 1) (hw : ∀ x ∈ ws, 0 ≤ x ∧ x ≤ 1000) (ht : 0 ≤ tol ∧ tol ≤ 10000) : BdU (ruX ws tol) := ⟨⟨by show 1 ≤ ws.length; omega, by show ws.length ≤ 40; omega⟩, hw, ht, by simp [ruX], by simp [ruX], by simp [ruX], by simp [ruX], by simp [ruX], by simp [ruX], by simp [ruX]⟩
theorem bd_X {u : Ru} (h : BdU u) : Bd rowX u := ⟨⟨by decide, by decide⟩, by decide, by decide, fun x hx => (it_bdX x hx).bd, h.wl, h.ws, h.tol, h.line, h.hyp, h.unl, h.dbl, h.last, h.room, h.loose⟩
theorem bd_Y {u : Ru} (h : BdU u) : Bd rowY u := ⟨⟨by decide, by decide⟩, by decide, by decide, fun x hx => (it_bdY x hx).bd, h.wl, h.ws, h.tol, h.line, h.hyp, h.unl, h.dbl, h.last, h.room, h.loose⟩
open L2 in
theorem least_fix {H : Hp} {v : V} {r : Row} {u : Ru} {way : List Int} (h2 : 1 ≤ r.length) (h : zeros (wfound r u r.length) = [way]) (hd : (endsOf r (allNodes r u false) = [] ∧ v = .non) ∨ ∃ base many least wy, Told r u (allNodes r u false) base many least ∧ Path r u false least (costAt (allNodes r u false) least) wy ∧ TupAt H v (wy.map V.int)) : TupAt H v (way.map V.int) := by
  rcases hd with ⟨h1, _⟩ | ⟨bs, many, least, wy, ht, hp, hv⟩
  · rw [ends_nil h2, zeros_some, h] at h1
    cases h1
  · have hm := zeros_mem h2 hp (ends_mem.mp ht.l1.1).2
    rw [h, List.mem_singleton] at hm
    rw [← hm]
    exact hv
open L2 in
theorem least_nofix {H : Hp} {v : V} {r : Row} {u : Ru} (h2 : 1 ≤ r.length) (h : zeros (wfound r u r.length) = []) (hd : (endsOf r (allNodes r u false) = [] ∧ v = .non) ∨ ∃ base many least wy, Told r u (allNodes r u false) base many least ∧ Path r u false least (costAt (allNodes r u false) least) wy ∧ TupAt H v (wy.map V.int)) : v = .non := by
  rcases hd with ⟨_, h1⟩ | ⟨bs, many, least, wy, ht, hp, hv⟩
  · exact h1
  · have hm := zeros_mem h2 hp (ends_mem.mp ht.l1.1).2
    rw [h] at hm
    cases hm
end K51
set_option Elab.async false
set_option linter.all false
set_option maxRecDepth 100000
set_option maxHeartbeats 4000000
namespace K51
open PySem PySem.Spec PyProof.Rows L2 Evl LamX
theorem paired_append {α β : Type} {R : α → β → Prop} {xs zs : List α} {ys ws : List β} (h : Paired R xs ys) (k : Paired R zs ws) : Paired R (xs ++ zs) (ys ++ ws) := by
  induction h with
  | nil => exact k
  | cons a b ih => exact .cons a ih
theorem sqL_xn {K : PySem.W.Frag} {d a : Addr} {H H1 H' : Hp} {xs : List V} (h : SqL K H a xs) (hd : H d = none) (e : Ex H H1) (x : XN d H1 H') : SqL K H' a xs := by
  have ne : ∀ o, H a = some o → a ≠ d := fun o ho z => by
    rw [z, hd] at ho
    cases ho
  rcases h with (h | ⟨o, h⟩) | h
  · exact .inl (.inl (x _ _ (ne _ h) (e _ _ h) fun ps z => nomatch z))
  · exact .inl (.inr ⟨o, x _ _ (ne _ h) (e _ _ h) fun ps z => nomatch z⟩)
  · exact .inr h
theorem XN.refl (d : Addr) (H : Hp) : XN d H H := fun _ _ _ h _ => h
def fixD : PyData := .list [.tuple [.int 3, .int 9], .none]
theorem fix_sh : SeqAt.shaped fixD = true := by rfl
theorem fix_eq : PyData.eqv fixD fixD = true := by simp [fixD, PyData.eqv, PyData.eqvAll]
def oneD : PyData := .tuple [.int 1]
theorem one_sh : SeqAt.shaped oneD = true := by rfl
theorem one_eq : PyData.eqv oneD oneD = true := by simp [oneD, PyData.eqv, PyData.eqvAll]
section
variable {K : PySem.W.Frag} {T : List (Addr × Str)} {σ : L2.St} {H : Hp} {te tb t1 t2 : TE} {ta tk tr : TA} {D : Ends} {tz tu : TS} {cG cR Pt d : Addr} {Q : VK}
theorem q_dice {a : Addr} {ns : List Int} {i j : Nat} (h : EvA ta σ H [.ref a, .int (i : Int)]) (ha : SqL K H a (ns.map V.int)) (k : ∀ d H2, H d = none → Ex H H2 → DiceH H2 d → tz D (σ.set j (some (.ref d))) H2) : tSeq (tAsg (tCall (sp_law_dice K) [] E0 ta) (gName j)) tz D σ H :=
  h H (Ex.refl H) _ fun H1 e1 => ⟨a, ns, i, rfl, ex_l e1 ha, fun d H2 hd e2 dd => k d H2 (fresh_back e1 hd) (e1.trans e2) dd⟩
theorem s_right (h : EvA ta σ H [.ref d]) (dd : DiceH H d) (hT : Tabs (Tt Pt) H) (k : ∀ H2, XN d H H2 → DiceH H2 d → Tabs (Tt Pt) H2 → D.nx σ H2) : tIfS (tNot (tB (tCall (sp_law_right Pt) [] E0 ta))) tu tNext D σ H :=
  h H (Ex.refl H) _ fun H1 e1 => ⟨d, rfl, dd.mono e1, hT.ext e1, fun H2 x2 d2 t2 => ⟨true, rfl, by
    show D.nx σ H2
    exact k H2 ((XN.of (.of e1)).trans x2) d2 t2⟩⟩
theorem v_calNDR {f : List V → Hp → (V → Hp → Prop) → Prop} {dvs : List V} {R0 : List V → Hp → Prop} (h : EvAR ta σ H R0) (hT : Tabs T H)
    (k : ∀ vs H1, Ex H H1 → R0 vs H1 → ∃ R : V → Hp → Prop, f (vs ++ dvs) H1 R ∧ ∀ v H2, ExtN H H2 → Tabs T H2 → R v H2 → Q v H2) : tCall (spN T f) dvs E0 ta σ H Q :=
  h H (Ex.refl H) _ fun vs H1 e1 r => by
    obtain ⟨R, hf, hk⟩ := k vs H1 e1 r
    exact ⟨R, hf, hT.ext e1, fun v H3 e3 t r3 => hk v H3 ((K51.ExtN.ofEx e1).trans e3) t r3⟩
theorem q_lst2 {i : Nat} (k : t1 σ H fun v1 H1 => t2 σ H1 fun v2 H2 => [v1, v2].length ≤ sizeLine ∧ ∀ p, H2 p = none → tz D (σ.set i (some (.ref p))) (upd H2 p (.lst [v1, v2]))) : tSeq (tAsg (tLst (tCons t1 (tCons t2 tNil))) (gName i)) tz D σ H := k
theorem s_retAnd (h1 : Ev te σ H (.bl true)) (k : ∀ H1, Ex H H1 → tb σ H1 D.rt) : tRet (tAndV te tb) D σ H := h1 H (Ex.refl H) _ fun H1 e1 => ⟨true, rfl, by
  show tb σ H1 D.rt
  exact k H1 e1⟩
theorem er_opB {r : R2} {x : V} {R1 R : V → Hp → Prop} (ha : Ev te σ H x) (hb : EvR tb σ H R1) (hr : ∀ v H1, Ex H H1 → R1 v H1 → ∃ z, RV r x v H1 z ∧ ∀ H2, Ex H1 H2 → R z H2) : EvR (tOp r te tb) σ H R := fun H1 e Q q =>
  ha H1 e _ fun H2 e2 => hb H2 (e.trans e2) _ fun v H3 e3 h3 => by
    obtain ⟨z, h4, h5⟩ := hr v H3 ((e.trans e2).trans e3) h3
    exact h4 H3 (Ex.refl H3) Q fun H4 e4 => q _ _ ((e2.trans e3).trans e4) (h5 H4 e4)
theorem er_catTR {a : Addr} {xs : List V} {R : List V → Hp → Prop} (h : Ev te σ H (.ref a)) (ha : H a = some (.tup xs)) (h2 : EvR tb σ H fun v H' => ∃ ys, TupAt H' v ys ∧ R ys H') (hy : ∀ ys H', R ys H' → ys ≠ [] ∧ xs.length + ys.length ≤ 100000) (hm : ∀ ys H1 H2, Ex H1 H2 → R ys H1 → R ys H2) : EvR (tOp (rCatA K) te tb) σ H fun v H' => ∃ ys, TupAt H' v (xs ++ ys) ∧ R ys H' := fun H1 e Q q =>
  h H1 e _ fun H2 e2 => h2 H2 (e.trans e2) _ fun v H3 e3 ⟨ys, ⟨b, hv, hb⟩, r⟩ => by
    obtain ⟨hy1, hz⟩ := hy ys H3 r
    exact ⟨a, b, xs, ys, rfl, hv, st_of (e3 _ _ (e2 _ _ (e _ _ ha))), st_of hb, sz_of hz, fun hx => q _ _ (e2.trans e3) ⟨ys, ⟨b, rfl, by rw [hx]; exact hb⟩, r⟩, fun _ h => absurd h hy1, fun _ _ p hp => q _ _ ((e2.trans e3).trans (Ex.new hp)) ⟨ys, ⟨p, rfl, upd_same⟩, hm _ _ _ (Ex.new hp) r⟩⟩
theorem ear_it {it : It} {its : List It} (h : EvR te σ H fun v H' => ItAt (GSlot cG) H' v it) (hr : ∀ H1, Ex H H1 → EvAR tr σ H1 fun vs H' => ItsAt (GSlot cG) H' vs its) : EvAR (tCons te tr) σ H fun vs H' => ItsAt (GSlot cG) H' vs (it :: its) := fun H1 e Q q =>
  h H1 e _ fun v H2 e2 r => hr H2 (e.trans e2) H2 (Ex.refl H2) _ fun vs H3 e3 r3 => q _ H3 (e2.trans e3) (.cons (r.mono gSlot_mono e3) r3)
theorem er_box {i : Int} : EvR (tTup (tCons (tC (.str "box")) (tCons (tC (.int i)) tNil))) σ H fun v H' => ItAt (GSlot cG) H' v (.box i) := er_imp (er_tup (ea_cons ev_c (ea_cons ev_c ea_nil)) (by show 2 ≤ 100000; decide)) fun v H1 _ ⟨a, hv, ha⟩ => by
  rw [hv]
  exact .box ha
theorem er_part {i j k : Int} : EvR (tTup (tCons (tC (.str "part")) (tCons (tC (.int i)) (tCons (tC (.int j)) (tCons (tC (.int k)) tNil))))) σ H fun v H' => ItAt (GSlot cG) H' v (.part i j k) := er_imp (er_tup (ea_cons ev_c (ea_cons ev_c (ea_cons ev_c (ea_cons ev_c ea_nil)))) (by show 4 ≤ 100000; decide)) fun v H1 _ ⟨a, hv, ha⟩ => by
  rw [hv]
  exact .part ha
theorem er_pen {i : Int} (h : ∀ H1, Ev te σ H1 (.int i)) : EvR (tTup (tCons (tC (.str "penalty")) (tCons te tNil))) σ H fun v H' => ItAt (GSlot cG) H' v (.pen i) := er_imp (er_tup (ea_cons ev_c (ea_cons (h _) ea_nil)) (by show 2 ≤ 100000; decide)) fun v H1 _ ⟨a, hv, ha⟩ => by
  rw [hv]
  exact .pen ha
theorem er_glueI {n s o k : Int} (h : ∀ H1, EvR te σ H1 fun v H' => GSlot cG H' v n s o k) : EvR (tTup (tCons (tC (.str "glue")) (tCons te tNil))) σ H fun v H' => ItAt (GSlot cG) H' v (.glue n s o k) := er_imp (er_tupR (R := fun vs H' => ∃ gv, vs = [.str "glue", gv] ∧ GSlot cG H' gv n s o k) (ear_ev ev_c fun H6 e6 => ear_cons (h H6) fun gv H7 e7 hgv => ear_nil fun H8 e8 => ⟨gv, rfl, gSlot_mono.to _ _ _ _ _ _ _ e8 hgv⟩) fun vs H1 H2 e ⟨gv, h1, h2⟩ => ⟨by rw [h1]; show 2 ≤ 100000; decide, gv, h1, gSlot_mono.to _ _ _ _ _ _ _ e h2⟩) fun v H1 _ ⟨vs, ⟨a, hv, ha⟩, gv, hvs, hg⟩ => by
  rw [hv]
  rw [hvs] at ha
  exact .glue ha hg
theorem its_mono : ∀ {H H' : Hp} {vs : List V} {its : List It}, Ex H H' → ItsAt (GSlot cG) H vs its → ItsAt (GSlot cG) H' vs its := fun e h => h.mono gSlot_mono e
theorem er_row {its : List It} (h : EvAR ta σ H fun vs H' => ItsAt (GSlot cG) H' vs its) (hl : its.length ≤ 100000) : EvR (tTup ta) σ H fun v H' => ∃ vs, TupAt H' v vs ∧ ItsAt (GSlot cG) H' vs its := er_tupR h fun vs H1 H2 e r => ⟨by rw [paired_len r]; exact hl, its_mono e r⟩
theorem row_of {v : V} {r : Row} (h : ∃ vs, TupAt H v vs ∧ ItsAt (GSlot cG) H vs r) : RowAt cG H v r := by
  obtain ⟨vs, ⟨a, h1, h2⟩, h3⟩ := h
  exact ⟨a, vs, h1, h2, h3⟩
theorem RowAt.monoN {H' : Hp} {v : V} {r : Row} (e : ExtN H H') (h : RowAt cG H v r) : RowAt cG H' v r := by
  obtain ⟨a, vs, h1, h2, h3⟩ := h
  refine ⟨a, vs, h1, e _ _ h2 (fun ps z => nomatch z), Paired.mapP h3 fun _ _ q => ?_⟩
  cases q with
  | box h => exact .box (e _ _ h fun _ z => nomatch z)
  | glue h q =>
    obtain ⟨g, dx, g1, g2, g3⟩ := q
    exact .glue (e _ _ h fun _ z => nomatch z) ⟨g, dx, g1, (e _ _ g2 fun _ z => nomatch z), (e _ _ g3 fun _ z => nomatch z)⟩
  | part h => exact .part (e _ _ h fun _ z => nomatch z)
  | pen h => exact .pen (e _ _ h fun _ z => nomatch z)
theorem er_rulesR {m : Nat} {gV : List V → List V → List V} {zs : List V} {u : Ru} (ha : EvAR ta σ H fun vs H' => ∃ wa, vs = [.ref wa] ∧ H' wa = some (.tup (u.ws.map V.int))) (hk : ∀ H1, EvA tk σ H1 zs) (l2 : zs.length = m) (hg : ∀ x wa, gV [.ref x, .ref wa] zs = [.ref x, .ref wa, .int u.tol, .int u.line, .int u.hyp, .int u.unl, .int u.dbl, .int u.last, .int u.room, .int u.loose]) (hu : BdU u) :
    EvR (tMakeK cR 1 m (sp_rules_init cR) gV E0 ta tk) σ H fun v H' => RulesAt cR H' v u := fun H1 e Q q =>
  ha H1 e _ fun vs H2 e2 ⟨wa, hvs, hw⟩ => hk H2 H2 (Ex.refl H2) _ fun H3 e3 => ⟨by rw [hvs]; rfl, l2, fun x dx hx hdx hne => by
    have e4 := ex_two (o := .own x) (o' := .ins cR dx []) hx hdx hne
    exact ⟨x, dx, wa, u, H3, by rw [hvs]; exact hg x wa, hx, upd_same, e4, e4 _ _ (e3 _ _ hw), hu, fun H4 e5 g => ⟨rfl, q _ H4 ((e2.trans e3).trans e5) g⟩⟩⟩
theorem er_rulesD {dvs : List V} {u : Ru} (ha : EvAR ta σ H fun vs H' => ∃ wa, vs = [.ref wa] ∧ H' wa = some (.tup (u.ws.map V.int))) (hg : dvs = [.int u.tol, .int u.line, .int u.hyp, .int u.unl, .int u.dbl, .int u.last, .int u.room, .int u.loose]) (hu : BdU u) :
    EvR (tMake cR (sp_rules_init cR) dvs E0 ta) σ H fun v H' => RulesAt cR H' v u := fun H1 e Q q =>
  ha H1 e _ fun vs H2 e2 ⟨wa, hvs, hw⟩ x dx hx hdx hne => by
    have e4 := ex_two (o := .own x) (o' := .ins cR dx []) hx hdx hne
    exact ⟨x, dx, wa, u, H2, by rw [hvs, hg]; rfl, hx, upd_same, e4, e4 _ _ hw, hu, fun H4 e5 g => ⟨rfl, q _ H4 (e2.trans e5) g⟩⟩
theorem ear_wid {i : Int} : EvAR (tCons (tTup (tCons (tC (.int i)) tNil)) tNil) σ H fun vs H' => ∃ wa, vs = [.ref wa] ∧ H' wa = some (.tup ([i].map V.int)) := ear_cons (er_tup (ea_cons ev_c ea_nil) (by show 1 ≤ 100000; decide)) fun v H1 e1 ⟨a, hv, ha⟩ => ear_nil fun H2 e2 => ⟨a, by rw [hv], e2 _ _ ha⟩
end
section
variable {P : Program} {w : World} {K : PySem.W.Frag} {mg : Str → Option Value} {base : Heap} {cG cR cL aF cC Pt : Addr}
abbrev st_law : Stmt := top 96
def nm_law : List Str := ["_law_script", "_law_spot", "_law_dice_here", "_law_turn", "_law_space", "_law_row", "_law_told"]
theorem sc_law : FnScope nm_law ["_law_script"] (defScope st_law) := ⟨rfl, rfl, rfl, by decide +kernel, rfl, by decide +kernel, by decide +kernel⟩
def sp_law (K : PySem.W.Frag) (Pt : Addr) : Sp := fun vs H Q _ => ∃ (a : Addr) (ns : List Int), vs = [.ref a] ∧ SqL K H a (ns.map V.int) ∧ Tabs (Tt Pt) H ∧ ∀ H2, Q (.bl true) H2
theorem ok_law (T : Tx K mg cG cR cL aF) {f : Addr} {fd : FuncData} (F : FunD K "law" "law" (defArgs st_law) (defBody st_law) (defScope st_law) [] [] f fd) (D_least : CalD P w K mg base "least_breaks" ["row", "rules", "wrong"] 9 (sp_least cG cR Pt) [.bl false])
    (M_gB : MkK P w K mg base cG gluePs 4 (sp_glue_init cG) 1 ["stretch", "shrink"] (fun vs zs => gB vs [.int 0, .int 0] zs)) (M_gC : MkK P w K mg base cG gluePs 4 (sp_glue_init cG) 1 ["stretch", "stretch_order"] (fun vs zs => gA vs [.int 0, .int 0] zs))
    (M_rB : MkK P w K mg base cR rulesPs 4 (sp_rules_init cR) 1 ["tolerance"] (fun vs zs => gA vs [.int 10, .int 50, .int 10000, .int 10000, .int 5000, .int 0, .int 0] zs)) (M_rD : MkD P w K mg base cR rulesPs 4 (sp_rules_init cR) (rulesKw.map (·.2)))
    (c_law_dice : Cal P w K mg base "_law_dice" ["_law_script", "_law_spot"] 1 (sp_law_dice K)) (c_law_right : Cal P w K mg base "_law_right" ["_law_dice_here"] 11 (sp_law_right Pt)) : FnOk P w K mg base CX0 12 f fd ["_law_script"] (sp_law K Pt) := by
  refine F.ok sc_law (fun vs H Q E h => ?_) (fun cdv A outer s H vs Q E hr h => ?_)
  · obtain ⟨a, ns, rfl, _⟩ := h
    rfl
  · obtain ⟨a, ns, rfl, ha, hT, k⟩ := h
    refine ⟨_, PSs.nox (pss_cons (ps_for PassesOwn.never rfl (pi_range1 rfl T.range_ (pa_cons (pe_callB (call_max2 rfl) (by rfl) T.max_ (by decide +kernel) (pa_cons pe_int (pa_cons (pe_callB (call_min2 rfl) (by rfl) T.min_ (by decide +kernel) (pa_cons pe_int (pa_cons (pe_callB call_len_seq (by rfl) T.len_ (by decide +kernel) (pa_cons (pv 0) pa_nil)) pa_nil))) pa_nil))) pa_nil)) (pg_name (i := 1) sc_law.nd rfl (Or.inl rfl)) (pss_cons (ps_set (i := 2) sc_law.nd rfl (Or.inl rfl) (pe_cal c_law_dice (hr.mono (by decide)) (pa_cons (pv 0) (pa_cons (pv 1) pa_nil))))
      (pss_one (ps_for PassesOwn.never rfl (pi_range1 rfl T.range_ (pa_cons pe_int pa_nil)) (pg_name (i := 3) sc_law.nd rfl (Or.inl rfl)) (pss_one (ps_if (pt_not (pt_val (pe_cal c_law_right (hr.mono (by decide)) (pa_cons (pv 2) pa_nil)))) (pss_one (ps_ret pe_bl)) pss_nil))))))
      (pss_cons (ps_set (i := 4) sc_law.nd rfl (Or.inl rfl) (pe_tup (pa_cons pe_str (pa_cons (pe_mkK M_gB T.g_Glue (hr.mono (by decide)) (pa_cons pe_int pa_nil) (pk_cons pe_int (pk_cons pe_int pk_nil))) pa_nil))))
      (pss_cons (ps_set (i := 5) sc_law.nd rfl (Or.inl rfl) (pe_tup (pa_cons (pe_tup (pa_cons pe_str (pa_cons pe_int pa_nil))) (pa_cons (pv 4) (pa_cons (pe_tup (pa_cons pe_str (pa_cons pe_int pa_nil))) (pa_cons (pv 4) (pa_cons (pe_tup (pa_cons pe_str (pa_cons pe_int pa_nil))) (pa_cons (pe_tup (pa_cons pe_str (pa_cons pe_int (pa_cons pe_int (pa_cons pe_int pa_nil))))) (pa_cons (pe_tup (pa_cons pe_str (pa_cons pe_int pa_nil))) (pa_cons (pe_tup (pa_cons pe_str (pa_cons pe_int pa_nil))) pa_nil))))))))))
      (pss_cons (ps_set (i := 5) sc_law.nd rfl (Or.inl rfl) (pe_op op_catA (pv 5) (pe_tup (pa_cons (pe_tup (pa_cons pe_str (pa_cons (pe_mkK M_gC T.g_Glue (hr.mono (by decide)) (pa_cons pe_int pa_nil) (pk_cons pe_int (pk_cons pe_int pk_nil))) pa_nil))) (pa_cons (pe_tup (pa_cons pe_str (pa_cons (pe_un un_neg pe_int) pa_nil))) pa_nil)))))
      (pss_cons (ps_set (i := 6) sc_law.nd rfl (Or.inl rfl) (pe_lst (pa_cons (pe_calD D_least (hr.mono (by decide)) (pa_cons (pv 5) (pa_cons (pe_mkK M_rB T.g_Rules (hr.mono (by decide)) (pa_cons (pe_tup (pa_cons pe_int pa_nil)) pa_nil) (pk_cons pe_int pk_nil)) pa_nil))) (pa_cons (pe_calD D_least (hr.mono (by decide)) (pa_cons (pv 5) (pa_cons (pe_mkK M_rB T.g_Rules (hr.mono (by decide)) (pa_cons (pe_tup (pa_cons pe_int pa_nil)) pa_nil) (pk_cons pe_int pk_nil)) pa_nil))) pa_nil))))
      (pss_one (ps_ret (pe_and (pe_cmpR (op_eqD hr.units) (pv 6) (pe_lst (pa_cons (pe_tup (pa_cons pe_int (pa_cons pe_int pa_nil))) (pa_cons pe_non pa_nil))) (nomark _)) (pe_one (pe_cmpR (op_eqD hr.units) (pe_calD D_least (hr.mono (by decide)) (pa_cons (pe_tup (pa_cons (pe_tup (pa_cons pe_str (pa_cons pe_int pa_nil))) (pa_cons (pe_tup (pa_cons pe_str (pa_cons (pe_un un_neg pe_int) pa_nil))) pa_nil))) (pa_cons (pe_mkD M_rD T.g_Rules (hr.mono (by decide)) (pa_cons (pe_tup (pa_cons pe_int pa_nil)) pa_nil)) pa_nil))) (pe_tup (pa_cons pe_int pa_nil)) (nomark _))))))))))), ?_⟩
    refine q_forR1 (ea_cons (ev_max2' ev_c (ev_min2 ev_c (ev_lenS (ev_var rfl) (.inl ha)))) ea_nil) (by constructor <;> (split <;> try split) <;> omega)
      (fun i σ' H' => ∃ o1 o2 o3, σ' = [some (.ref a), o1, o2, o3, none, none, none] ∧ Tabs (Tt Pt) H' ∧ SqL K H' a (ns.map V.int)) (fun H1 e1 => ⟨_, _, _, rfl, hT.ext e1, ex_l e1 ha⟩) ?_ ?_
    · rintro i σ' H1 hi ⟨o1, o2, o3, rfl, t1, ha1⟩
      refine q_dice (ea_cons (ev_var rfl) (ea_cons (ev_var rfl) ea_nil)) ha1 fun d H2 hd e2 dd => ?_
      refine s_forR1 (n := 3) (ea_cons ev_c ea_nil) ⟨by decide, by decide⟩ (fun j σ' H' => ∃ o3, σ' = [some (.ref a), some (.int (i : Int)), some (.ref d), o3, none, none, none] ∧ XN d H2 H' ∧ DiceH H' d ∧ Tabs (Tt Pt) H') (fun H3 e3 => ⟨_, rfl, .of (.of e3), dd.mono e3, (t1.ext e2).ext e3⟩) ?_ ?_
      · rintro j σ' H3 hj ⟨o3, rfl, x3, d3, t3⟩
        exact s_right (ea_cons (ev_var rfl) ea_nil) d3 t3 fun H4 x4 d4 t4 => ⟨_, rfl, x3.trans x4, d4, t4⟩
      · rintro σ' H3 ⟨o3, rfl, x3, d3, t3⟩
        exact ⟨_, _, _, rfl, t3, sqL_xn ha1 hd e2 x3⟩
    · rintro σ' H1 ⟨o1, o2, o3, rfl, t1, _⟩
      refine q_asgR (er_glueI fun H2 => er_glueK (i := 10) (s := 5) (o := 0) (k := 3) (ea_cons ev_c ea_nil) (ea_cons ev_c (ea_cons ev_c ea_nil)) rfl rfl (fun x => rfl) (by decide) (by decide) (by decide) (by decide) (by decide)) fun sv H2 e2 hs => ?_
      have hsp : ∀ {H' : Hp} {i : Nat} {σ : L2.St}, Ex H2 H' → σ[i]? = some (some sv) → EvR (tVar i) σ H' fun v H' => ItAt (GSlot cG) H' v (.glue 10 5 0 3) := fun e h => er_of (ev_var h) fun H4 e4 => hs.mono gSlot_mono (e.trans e4)
      refine q_asgR (er_row (its := [.box 30, .glue 10 5 0 3, .box 40, .glue 10 5 0 3, .box 20, .part 6 0 0, .box 20, .pen 10000]) (ear_it er_box fun H3 e3 => ear_it (hsp e3 rfl) fun H4 e4 => ear_it er_box fun H5 e5 => ear_it (hsp ((e3.trans e4).trans e5) rfl) fun H6 e6 => ear_it er_box fun H7 e7 => ear_it er_part fun H8 e8 => ear_it er_box fun H9 e9 => ear_it (er_pen fun _ => ev_c) fun H10 e10 => ear_nil fun H11 e11 => .nil) (by show 8 ≤ 100000; decide)) fun rv H3 e3 hrow => ?_
      obtain ⟨rws, ⟨ra, rfl, hra⟩, hits⟩ := hrow
      have hrl := paired_len hits
      refine q_asgR (er_catTR (R := fun ys H' => ItsAt (GSlot cG) H' ys [.glue 0 1 1 0, .pen (-10000)]) (ev_var rfl) hra (er_row (its := [.glue 0 1 1 0, .pen (-10000)]) (ear_it (er_glueI fun H4 => er_glueK (i := 0) (s := 1) (o := 1) (k := 0) (ea_cons ev_c ea_nil) (ea_cons ev_c (ea_cons ev_c ea_nil)) rfl rfl (fun x => rfl) (by decide) (by decide) (by decide) (by decide) (by decide)) fun H4 e4 => ear_it (er_pen fun _ => ev_un ev_c ru_neg) fun H5 e5 => ear_nil fun H6 e6 => .nil) (by show 2 ≤ 100000; decide)) (fun ys H' h => by
        have := paired_len h
        refine ⟨fun z => ?_, ?_⟩
        · rw [z] at this
          cases this
        · rw [hrl, this]
          decide) fun ys H1 H2 e h => its_mono e h) fun rv2 H4 e4 hrow2 => ?_
      obtain ⟨ys, ⟨rb, rfl, hrb⟩, hits2⟩ := hrow2
      have hrX : RowAt cG H4 (.ref rb) rowX := ⟨rb, _, rfl, hrb, paired_append (its_mono e4 hits) hits2⟩
      have t4 := ((t1.ext e2).ext e3).ext e4
      refine q_lst2 (v_calNDR (R0 := fun vs H' => ∃ b, vs = [.ref rb, .ref b] ∧ RulesAt cR H' (.ref b) (ruX [80] 1000)) (ear_ev (ev_var rfl) fun H5 e5 => ear_cons (er_rulesR (u := ruX [80] 1000) ear_wid (fun H1 => ea_cons ev_c ea_nil) rfl (fun x wa => rfl) (bdu_X rfl (by decide) (by decide))) fun bv H6 e6 hb => ear_nil fun H7 e7 => by
        obtain ⟨b, dx, wa, rfl, hb2⟩ := id hb
        exact ⟨b, rfl, hb.mono e7⟩) t4 fun vs H5 e5 ⟨b, hvs, hb⟩ => ⟨_, ⟨.ref rb, b, rowX, ruX [80] 1000, false, by rw [hvs]; rfl, hrX.mono e5, hb, bd_X (bdu_X rfl (by decide) (by decide)), rfl⟩, fun v H6 n6 t6 hv => ?_⟩)
      have hv1 := least_fix (by decide) way_A hv
      have hrX6 := hrX.monoN n6
      refine v_calNDR (R0 := fun vs H' => ∃ b, vs = [.ref rb, .ref b] ∧ RulesAt cR H' (.ref b) (ruX [25] 0)) (ear_ev (ev_var rfl) fun H5 e5 => ear_cons (er_rulesR (u := ruX [25] 0) ear_wid (fun H1 => ea_cons ev_c ea_nil) rfl (fun x wa => rfl) (bdu_X rfl (by decide) (by decide))) fun bv H6 e6 hb => ear_nil fun H7 e7 => by
        obtain ⟨b, dx, wa, rfl, hb2⟩ := id hb
        exact ⟨b, rfl, hb.mono e7⟩) t6 fun vs H7 e7 ⟨b, hvs, hb⟩ => ⟨_, ⟨.ref rb, b, rowX, ruX [25] 0, false, by rw [hvs]; rfl, hrX6.mono e7, hb, bd_X (bdu_X rfl (by decide) (by decide)), rfl⟩, fun v2 H8 n8 t8 hv2 => ?_⟩
      have hn2 := least_nofix (by decide) way_B hv2
      subst hn2
      refine ⟨sz_of (by show 2 ≤ 100000; decide), fun p hp => ?_⟩
      have hv8 : TupAt H8 v [.int 3, .int 9] := hv1.monoX (.ofN n8)
      have e9 : Ex H8 (upd H8 p (.lst [v, .non])) := Ex.new hp
      have h9 : upd H8 p (.lst [v, .non]) p = some (.lst [v, .non]) := upd_same
      have t9 := t8.ext e9
      have hv9 := hv8.mono e9
      generalize upd H8 p (.lst [v, .non]) = H9 at h9 t9 hv9
      refine s_retAnd (ev_ofR (er_opB (R1 := fun w H' => ∃ vs, LstAt H' w vs ∧ ∃ z, vs = [z, .non] ∧ TupAt H' z [.int 3, .int 9]) (ev_var rfl) (er_lstR (ear_cons (er_tup (ea_cons ev_c (ea_cons ev_c ea_nil)) (by show 2 ≤ 100000; decide)) fun z H10 e10 hz => ear_ev ev_c fun H11 e11 => ear_nil fun H12 e12 => ⟨z, rfl, hz.mono (e11.trans e12)⟩) fun vs H1 H2 e ⟨z, h1, h2⟩ => ⟨by rw [h1]; show 2 ≤ 100000; decide, z, h1, h2.mono e⟩) fun w H10 e10 ⟨vs, ⟨b, hw, hb⟩, z, hvs, ⟨za, hz, hza⟩⟩ => ⟨.bl true, rv_val fun H11 e11 Q q => ?_, fun _ _ => rfl⟩)) fun H10 e10 => ?_
      · obtain ⟨va, rfl, hva⟩ := hv9
        rw [hvs, hz] at hb
        rw [hw]
        exact ⟨fixD, fixD, .lst (sq_of (e11 _ _ (e10 _ _ h9))) (.cons (.tup (st_of (e11 _ _ (e10 _ _ hva))) (.cons (.int _) (.cons (.int _) .nil))) (.cons .non .nil)), .lst (sq_of (e11 _ _ hb)) (.cons (.tup (st_of (e11 _ _ hza)) (.cons (.int _) (.cons (.int _) .nil))) (.cons .non .nil)), fix_sh, fix_sh, by rw [fix_eq]; exact q⟩
      · refine v_calNDR (R0 := fun vs H' => ∃ x b, vs = [x, .ref b] ∧ RowAt cG H' x rowY ∧ RulesAt cR H' (.ref b) (ruX [3] 200)) (ear_cons (er_row (its := rowY) (ear_it er_box fun H5 e5 => ear_it (er_pen fun _ => ev_un ev_c ru_neg) fun H6 e6 => ear_nil fun H7 e7 => .nil) (by show 2 ≤ 100000; decide)) fun xv H5 e5 hx => ear_cons (er_rulesD (u := ruX [3] 200) ear_wid rfl (bdu_X rfl (by decide) (by decide))) fun bv H6 e6 hb => ear_nil fun H7 e7 => by
          obtain ⟨b, dx, wa, rfl, hb2⟩ := id hb
          exact ⟨xv, b, rfl, (row_of hx).mono (e6.trans e7), hb.mono e7⟩) (t9.ext e10) fun vs H11 e11 ⟨x, b, hvs, hx, hb⟩ => ⟨_, ⟨x, b, rowY, ruX [3] 200, false, by rw [hvs]; rfl, hx, hb, bd_Y (bdu_X rfl (by decide) (by decide)), rfl⟩, fun w H12 n12 t12 hw => ?_⟩
        have hw1 := least_fix (by decide) way_C hw
        refine er_tup (ws := [.int 1]) (ea_cons ev_c ea_nil) (by show 1 ≤ 100000; decide) H12 (Ex.refl H12) _ fun z H13 e13 hz => ?_
        obtain ⟨wa, rfl, hwa⟩ := hw1
        obtain ⟨za, rfl, hza⟩ := hz
        exact ⟨oneD, oneD, .tup (st_of (e13 _ _ hwa)) (.cons (.int _) .nil), .tup (st_of hza) (.cons (.int _) .nil), one_sh, one_sh, by rw [one_eq]; exact k _⟩
end
end K51
set_option Elab.async false
set_option linter.all false
set_option maxRecDepth 100000
set_option maxHeartbeats 4000000
namespace K51
open PySem PySem.Spec PyProof.Rows L2 Evl LamX
/-! ### the getters -/
section
variable {P : Program} {w : World} {K : PySem.W.Frag} {mg : Str → Option Value} {base : Heap} {cG cR cL aF cC Pt : Addr}
theorem fnr_of {k : Nat} {f : Addr} {fd : FuncData} {ps : List Str} {sp : Sp} (F : FnOk P w K mg base CX0 k f fd ps sp) (hb : Binds K fd ps []) : FnR P w K mg base CX0 k f sp := fun A outer s H us vs Q E hr e0 r h => by
  have hl : us.length = ps.length := by rw [← r.length]; exact F.len _ _ _ _ h
  have hK : K.In s.heap := fun a o e => (e0.bs _ _ (e0.mod.kin a o e)).1
  have b := hb s us hK (by rw [List.append_nil]; exact hl)
  rw [List.append_nil] at b
  exact F.run A outer s H ⟨us, []⟩ us vs Q E hr e0 b r h
abbrev st_Glue_natural : Stmt := inClass (top 26) 3
def nm_Glue_natural : List Str := ["self"]
theorem sc_Glue_natural : FnScope nm_Glue_natural ["self"] (defScope st_Glue_natural) := ⟨rfl, rfl, rfl, by decide +kernel, rfl, by decide +kernel, by decide +kernel⟩
theorem ok_get_natural (G : GI K cG) {f : Addr} {fd : FuncData} (F : FunD K "natural" "Glue.natural" (defArgs st_Glue_natural) (defBody st_Glue_natural) (defScope st_Glue_natural) [] [] f fd) : FnR P w K mg base CX0 1 f (sp_get cG 0) := by
  refine fnr_of (F.ok sc_Glue_natural (fun vs H Q E h => ?_) (fun cdv A outer s H vs Q E hr h => ?_)) (F.bindsN fun _ _ _ _ _ _ us hl => match us, hl with | [_], _ => rfl)
  · obtain ⟨a, dx, us, v, rfl, _⟩ := h
    rfl
  · obtain ⟨a, dx, us, v, rfl, hs, hi, hQ⟩ := h
    obtain ⟨p, g⟩ := G.s0
    exact ⟨_, PSs.nox (pss_one (ps_ret (SlX.pe_sl (pv 0) rfl))), _, rfl, a, cG, dx, p, us, 0, v, rfl, hs, G.cl, g, hi, hQ⟩
abbrev st_Glue_shrink : Stmt := inClass (top 26) 6
def nm_Glue_shrink : List Str := ["self"]
theorem sc_Glue_shrink : FnScope nm_Glue_shrink ["self"] (defScope st_Glue_shrink) := ⟨rfl, rfl, rfl, by decide +kernel, rfl, by decide +kernel, by decide +kernel⟩
theorem ok_get_shrink (G : GI K cG) {f : Addr} {fd : FuncData} (F : FunD K "shrink" "Glue.shrink" (defArgs st_Glue_shrink) (defBody st_Glue_shrink) (defScope st_Glue_shrink) [] [] f fd) : FnR P w K mg base CX0 1 f (sp_get cG 1) := by
  refine fnr_of (F.ok sc_Glue_shrink (fun vs H Q E h => ?_) (fun cdv A outer s H vs Q E hr h => ?_)) (F.bindsN fun _ _ _ _ _ _ us hl => match us, hl with | [_], _ => rfl)
  · obtain ⟨a, dx, us, v, rfl, _⟩ := h
    rfl
  · obtain ⟨a, dx, us, v, rfl, hs, hi, hQ⟩ := h
    obtain ⟨p, g⟩ := G.s1
    exact ⟨_, PSs.nox (pss_one (ps_ret (SlX.pe_sl (pv 0) rfl))), _, rfl, a, cG, dx, p, us, 1, v, rfl, hs, G.cl, g, hi, hQ⟩
abbrev st_Glue_shrink_order : Stmt := inClass (top 26) 7
def nm_Glue_shrink_order : List Str := ["self"]
theorem sc_Glue_shrink_order : FnScope nm_Glue_shrink_order ["self"] (defScope st_Glue_shrink_order) := ⟨rfl, rfl, rfl, by decide +kernel, rfl, by decide +kernel, by decide +kernel⟩
theorem ok_get_shrink_order (G : GI K cG) {f : Addr} {fd : FuncData} (F : FunD K "shrink_order" "Glue.shrink_order" (defArgs st_Glue_shrink_order) (defBody st_Glue_shrink_order) (defScope st_Glue_shrink_order) [] [] f fd) : FnR P w K mg base CX0 1 f (sp_get cG 2) := by
  refine fnr_of (F.ok sc_Glue_shrink_order (fun vs H Q E h => ?_) (fun cdv A outer s H vs Q E hr h => ?_)) (F.bindsN fun _ _ _ _ _ _ us hl => match us, hl with | [_], _ => rfl)
  · obtain ⟨a, dx, us, v, rfl, _⟩ := h
    rfl
  · obtain ⟨a, dx, us, v, rfl, hs, hi, hQ⟩ := h
    obtain ⟨p, g⟩ := G.s2
    exact ⟨_, PSs.nox (pss_one (ps_ret (SlX.pe_sl (pv 0) rfl))), _, rfl, a, cG, dx, p, us, 2, v, rfl, hs, G.cl, g, hi, hQ⟩
abbrev st_Glue_stretch : Stmt := inClass (top 26) 4
def nm_Glue_stretch : List Str := ["self"]
theorem sc_Glue_stretch : FnScope nm_Glue_stretch ["self"] (defScope st_Glue_stretch) := ⟨rfl, rfl, rfl, by decide +kernel, rfl, by decide +kernel, by decide +kernel⟩
theorem ok_get_stretch (G : GI K cG) {f : Addr} {fd : FuncData} (F : FunD K "stretch" "Glue.stretch" (defArgs st_Glue_stretch) (defBody st_Glue_stretch) (defScope st_Glue_stretch) [] [] f fd) : FnR P w K mg base CX0 1 f (sp_get cG 3) := by
  refine fnr_of (F.ok sc_Glue_stretch (fun vs H Q E h => ?_) (fun cdv A outer s H vs Q E hr h => ?_)) (F.bindsN fun _ _ _ _ _ _ us hl => match us, hl with | [_], _ => rfl)
  · obtain ⟨a, dx, us, v, rfl, _⟩ := h
    rfl
  · obtain ⟨a, dx, us, v, rfl, hs, hi, hQ⟩ := h
    obtain ⟨p, g⟩ := G.s3
    exact ⟨_, PSs.nox (pss_one (ps_ret (SlX.pe_sl (pv 0) rfl))), _, rfl, a, cG, dx, p, us, 3, v, rfl, hs, G.cl, g, hi, hQ⟩
abbrev st_Glue_stretch_order : Stmt := inClass (top 26) 5
def nm_Glue_stretch_order : List Str := ["self"]
theorem sc_Glue_stretch_order : FnScope nm_Glue_stretch_order ["self"] (defScope st_Glue_stretch_order) := ⟨rfl, rfl, rfl, by decide +kernel, rfl, by decide +kernel, by decide +kernel⟩
theorem ok_get_stretch_order (G : GI K cG) {f : Addr} {fd : FuncData} (F : FunD K "stretch_order" "Glue.stretch_order" (defArgs st_Glue_stretch_order) (defBody st_Glue_stretch_order) (defScope st_Glue_stretch_order) [] [] f fd) : FnR P w K mg base CX0 1 f (sp_get cG 4) := by
  refine fnr_of (F.ok sc_Glue_stretch_order (fun vs H Q E h => ?_) (fun cdv A outer s H vs Q E hr h => ?_)) (F.bindsN fun _ _ _ _ _ _ us hl => match us, hl with | [_], _ => rfl)
  · obtain ⟨a, dx, us, v, rfl, _⟩ := h
    rfl
  · obtain ⟨a, dx, us, v, rfl, hs, hi, hQ⟩ := h
    obtain ⟨p, g⟩ := G.s4
    exact ⟨_, PSs.nox (pss_one (ps_ret (SlX.pe_sl (pv 0) rfl))), _, rfl, a, cG, dx, p, us, 4, v, rfl, hs, G.cl, g, hi, hQ⟩
end
end K51
set_option Elab.async false
set_option linter.all false
set_option maxRecDepth 100000
set_option maxHeartbeats 4000000
namespace K51H
open PySem PySem.Spec PyProof.Rows L2 Evl LamX K51
theorem code_of {K : PySem.W.Frag} {p : Str × Option Str} {name qual : Str} {params : Arguments} {body : List Stmt} {scope : Scope} {dvs : List V} {kws : List (Str × V)} {fd : FuncData} (F : FunD K name qual params body scope dvs kws (He.fAd K p) fd) : fd.code = .ref (He.cT K p).1 := by
  obtain ⟨oc, od, dV, kV, doc, pm, an, cdv, ct, osl, rfl, lk, hcd, _, _⟩ := F.ex
  obtain ⟨z, rfl⟩ := He.codeIn_ref hcd
  exact congrArg Value.ref (He.codeOf_eq lk rfl).symm
theorem kfst_of {K : PySem.W.Frag} (e : He.tupB K "FIRST_NODE" [.int (-1), .int 0, .int 1, .bl false] = true) : KFst K (He.ga K "FIRST_NODE") := by
  rcases He.tupB_ok e (fun _ => none) with (h | ⟨_, h⟩) | h
  · cases h
  · cases h
  · exact h
theorem own_of {K : PySem.W.Frag} {C : Addr} : PySem.W.kitOne K (.ref C) (.ref C) = some true := by
  unfold PySem.W.kitOne
  rw [if_pos (beq_self_eq_true _)]
theorem slot_of {K : PySem.W.Frag} {C : Addr} {f : Str} {i : Nat} (e : slB K C f i = true) (hi : i < 1000) : ∃ p, SlX.Slot1 K C f p i := by
  unfold slB at e
  obtain ⟨e1, e⟩ := He.ba e
  obtain ⟨e2, e⟩ := He.ba e
  obtain ⟨e3, e⟩ := He.ba e
  obtain ⟨e4, e5⟩ := He.ba e
  exact ⟨_, He.eqO_ok e1, He.eqO_ok e2, of_decide_eq_true e3, of_decide_eq_true e4, of_decide_eq_true e5, hi⟩
theorem scls_of {K : PySem.W.Frag} {C : Addr} (e : scB K C = true) : SlX.SCls K C := by
  unfold scB at e
  obtain ⟨e1, e⟩ := He.ba e
  obtain ⟨e2, e⟩ := He.ba e
  obtain ⟨e3, e4⟩ := He.ba e
  exact ⟨e1, e2, e3, He.eqO_ok e4⟩
theorem isi_of {K : PySem.W.Frag} {C : Addr} (e : clsB K C = true) : PySem.W.findIn K (.ref C) "__class__" = some (some (.builtin "object.__class__")) ∧ PySem.W.specialIn K (.builtin "object.__class__") "__get__" = some (some (.builtin "getset_descriptor.__get__")) ∧ PySem.W.takesIn K (.builtin "object.__class__") = some true ∧ PySem.W.mroIn K C (.type "object") = some true := by
  unfold clsB at e
  obtain ⟨e1, e⟩ := He.ba e
  obtain ⟨e2, e⟩ := He.ba e
  obtain ⟨e3, e4⟩ := He.ba e
  exact ⟨He.eqO_ok e1, He.eqO_ok e2, of_decide_eq_true e3, of_decide_eq_true e4⟩
theorem prop_of {P : Program} {w : World} {K : PySem.W.Frag} {mg : Str → Option Value} {base : Heap} {C g : Addr} {f : Str} {i : Nat} (e : prB K C f = true) (hr : ∃ rest, PySem.W.recIn K (He.ma K C f) "property" = some (.ref g :: rest)) (F : FnR P w K mg base CX0 1 g (sp_get C i)) : GProp P w K mg base C f i := by
  unfold prB at e
  obtain ⟨e1, e⟩ := He.ba e
  obtain ⟨e2, e3⟩ := He.ba e
  exact ⟨_, g, He.eqO_ok e1, He.eqO_ok e2, of_decide_eq_true e3, hr, F⟩
theorem lawAt {w : World} {K : PySem.W.Frag} {h : Heap} {mg : Str → Option Value} {f : Addr} (X : K.In h) (N : h.Ns mainGlobals mg) (hf : mg ("law" : Str) = some (.ref f)) (c : SaysP fa fn tf ex gs w h K) : LamX.LawAtS PySem.Challenge.rw_pagewright_k51_whole_least_ways w K CX0 12 63 "_law_script" mg f h := by
  have S := He.SaysT.d c.x.t
  obtain ⟨fd_is_whole_lengths, F_is_whole_lengths⟩ := S.def_ 0 (d := d0) rfl
  obtain ⟨fd_is_length, F_is_length⟩ := S.def_ 1 (d := d1) rfl
  obtain ⟨fd_is_amount, F_is_amount⟩ := S.def_ 2 (d := d2) rfl
  obtain ⟨fd_is_order, F_is_order⟩ := S.def_ 3 (d := d3) rfl
  obtain ⟨fd_is_whole_measures, F_is_whole_measures⟩ := S.def_ 4 (d := d4) rfl
  obtain ⟨fd_is_within, F_is_within⟩ := S.def_ 5 (d := d5) rfl
  obtain ⟨fd_is_measured_item, F_is_measured_item⟩ := S.def_ 6 (d := d6) rfl
  obtain ⟨fd_is_forced, F_is_forced⟩ := S.def_ 7 (d := d7) rfl
  obtain ⟨fd_stays, F_stays⟩ := S.def_ 8 (d := d8) rfl
  obtain ⟨fd_are_measured, F_are_measured⟩ := S.def_ 9 (d := d9) rfl
  obtain ⟨fd_are_widths, F_are_widths⟩ := S.def_ 10 (d := d10) rfl
  obtain ⟨fd_is_place, F_is_place⟩ := S.def_ 11 (d := d11) rfl
  obtain ⟨fd_all_places, F_all_places⟩ := S.def_ 12 (d := d12) rfl
  obtain ⟨fd_start_behind, F_start_behind⟩ := S.def_ 13 (d := d13) rfl
  obtain ⟨fd_places_behind, F_places_behind⟩ := S.def_ 14 (d := d14) rfl
  obtain ⟨fd_badness_by, F_badness_by⟩ := S.def_ 15 (d := d15) rfl
  obtain ⟨fd_natural_of, F_natural_of⟩ := S.def_ 16 (d := d16) rfl
  obtain ⟨fd_penalty_at, F_penalty_at⟩ := S.def_ 17 (d := d17) rfl
  obtain ⟨fd_edge_widths, F_edge_widths⟩ := S.def_ 18 (d := d18) rfl
  obtain ⟨fd_class_of, F_class_of⟩ := S.def_ 19 (d := d19) rfl
  obtain ⟨fd_step_to, F_step_to⟩ := S.def_ 20 (d := d20) rfl
  obtain ⟨fd_steps_from, F_steps_from⟩ := S.def_ 21 (d := d21) rfl
  obtain ⟨fd_added_cost, F_added_cost⟩ := S.def_ 22 (d := d22) rfl
  obtain ⟨fd_all_nodes, F_all_nodes⟩ := S.def_ 23 (d := d23) rfl
  obtain ⟨fd_way_to, F_way_to⟩ := S.def_ 24 (d := d24) rfl
  obtain ⟨fd_told_nodes, F_told_nodes⟩ := S.def_ 25 (d := d25) rfl
  obtain ⟨fd_require_measured, F_require_measured⟩ := S.def_ 26 (d := d26) rfl
  obtain ⟨fd_require_wrong, F_require_wrong⟩ := S.def_ 27 (d := d27) rfl
  obtain ⟨fd_least_breaks, F_least_breaks⟩ := S.def_ 28 (d := d28) rfl
  obtain ⟨fd_law_dice, F_law_dice⟩ := S.def_ 29 (d := d29) rfl
  obtain ⟨fd_law_roll, F_law_roll⟩ := S.def_ 30 (d := d30) rfl
  obtain ⟨fd_law_pick, F_law_pick⟩ := S.def_ 31 (d := d31) rfl
  obtain ⟨fd_law_units_wide, F_law_units_wide⟩ := S.def_ 32 (d := d32) rfl
  obtain ⟨fd_law_measured, F_law_measured⟩ := S.def_ 33 (d := d33) rfl
  obtain ⟨fd_law_row_made, F_law_row_made⟩ := S.def_ 34 (d := d34) rfl
  obtain ⟨fd_law_rules_drawn, F_law_rules_drawn⟩ := S.def_ 35 (d := d35) rfl
  obtain ⟨fd_law_rules_made, F_law_rules_made⟩ := S.def_ 36 (d := d36) rfl
  obtain ⟨fd_law_break_places, F_law_break_places⟩ := S.def_ 37 (d := d37) rfl
  obtain ⟨fd_law_line_start, F_law_line_start⟩ := S.def_ 38 (d := d38) rfl
  obtain ⟨fd_law_places_behind, F_law_places_behind⟩ := S.def_ 39 (d := d39) rfl
  obtain ⟨fd_law_line_badness, F_law_line_badness⟩ := S.def_ 40 (d := d40) rfl
  obtain ⟨fd_law_line_told, F_law_line_told⟩ := S.def_ 41 (d := d41) rfl
  obtain ⟨fd_law_line_demerits, F_law_line_demerits⟩ := S.def_ 42 (d := d42) rfl
  obtain ⟨fd_law_step_told, F_law_step_told⟩ := S.def_ 43 (d := d43) rfl
  obtain ⟨fd_law_sum_of, F_law_sum_of⟩ := S.def_ 44 (d := d44) rfl
  obtain ⟨fd_law_all_ways, F_law_all_ways⟩ := S.def_ 45 (d := d45) rfl
  obtain ⟨fd_law_least_told, F_law_least_told⟩ := S.def_ 46 (d := d46) rfl
  obtain ⟨fd_law_way_cost, F_law_way_cost⟩ := S.def_ 47 (d := d47) rfl
  obtain ⟨fd_law_told_right, F_law_told_right⟩ := S.def_ 48 (d := d48) rfl
  obtain ⟨fd_law_right, F_law_right⟩ := S.def_ 49 (d := d49) rfl
  obtain ⟨fd_law, F_law⟩ := S.def_ 50 (d := d50) rfl
  obtain ⟨fd_LineFacts___init__, F_LineFacts___init__⟩ := S.def_ 51 (d := d51) rfl
  obtain ⟨fd_LineFacts_badness_here, F_LineFacts_badness_here⟩ := S.def_ 52 (d := d52) rfl
  obtain ⟨fd_LineFacts_demerits_behind, F_LineFacts_demerits_behind⟩ := S.def_ 53 (d := d53) rfl
  obtain ⟨fd_Glue___init__, F_Glue___init__⟩ := S.def_ 54 (d := d54) rfl
  obtain ⟨fd_Rules___init__, F_Rules___init__⟩ := S.def_ 55 (d := d55) rfl
  have T : Tx K mg (He.ga K "Glue") (He.ga K "Rules") (He.ga K "LineFacts") (He.ga K "FIRST_NODE") := ⟨He.free_ok X N (S.fact 0 (f := .free "abs") rfl),
    He.free_ok X N (S.fact 1 (f := .free "len") rfl),
    He.free_ok X N (S.fact 2 (f := .free "all") rfl),
    He.free_ok X N (S.fact 3 (f := .free "any") rfl),
    He.free_ok X N (S.fact 4 (f := .free "sum") rfl),
    He.free_ok X N (S.fact 5 (f := .free "min") rfl),
    He.free_ok X N (S.fact 6 (f := .free "max") rfl),
    He.free_ok X N (S.fact 7 (f := .free "range") rfl),
    He.free_ok X N (S.fact 8 (f := .free "isinstance") rfl),
    He.free_ok X N (S.fact 9 (f := .free "int") rfl),
    He.free_ok X N (S.fact 10 (f := .free "bool") rfl),
    He.free_ok X N (S.fact 11 (f := .free "str") rfl),
    He.free_ok X N (S.fact 12 (f := .free "tuple") rfl),
    He.free_ok X N (S.fact 13 (f := .free "list") rfl),
    He.free_ok X N (S.fact 14 (f := .free "dict") rfl),
    He.free_ok X N (S.fact 15 (f := .free "enumerate") rfl),
    He.int_ok X N (S.fact 16 (f := .int "BOUND" (10 ^ 60)) rfl),
    He.int_ok X N (S.fact 17 (f := .int "MAX_LENGTH" 1073741823) rfl),
    He.int_ok X N (S.fact 18 (f := .int "MAX_ORDER" 3) rfl),
    He.int_ok X N (S.fact 19 (f := .int "MOST_ITEMS" 1000) rfl),
    He.int_ok X N (S.fact 20 (f := .int "MOST_NODES" 20000) rfl),
    He.int_ok X N (S.fact 21 (f := .int "MOST_WIDTHS" 40) rfl),
    He.int_ok X N (S.fact 22 (f := .int "CLOSED" 10000) rfl),
    He.int_ok X N (S.fact 23 (f := .int "OPENED" (-10000)) rfl),
    He.int_ok X N (S.fact 24 (f := .int "WORST" 10000) rfl),
    He.int_ok X N (S.fact 25 (f := .int "TIGHT" 12) rfl),
    He.int_ok X N (S.fact 26 (f := .int "LOOSE" 99) rfl),
    He.int_ok X N (S.fact 27 (f := .int "NEVER" 10000) rfl),
    He.int_ok X N (S.fact 28 (f := .int "FORCED" (-10000)) rfl),
    He.int_ok X N (S.fact 29 (f := .int "HIGHEST" 1000000) rfl),
    He.int_ok X N (S.fact 30 (f := .int "LEAST_LOOSENESS" (-100)) rfl),
    He.int_ok X N (S.fact 31 (f := .int "MOST_LOOSENESS" 100) rfl),
    He.glo_ok X N (S.fact 32 (f := .glo "Glue") rfl),
    He.glo_ok X N (S.fact 33 (f := .glo "Rules") rfl),
    He.glo_ok X N (S.fact 34 (f := .glo "LineFacts") rfl),
    He.glo_ok X N (S.fact 35 (f := .glo "FIRST_NODE") rfl)⟩
  have RR : RC K (He.ga K "Rules") := ⟨He.cls_ok (S.fact 87 (f := .cls "Rules") rfl), He.noat_ok (S.fact 88 (f := .noat "Rules" "own_widths") rfl), He.noat_ok (S.fact 89 (f := .noat "Rules" "own_tolerance") rfl), He.noat_ok (S.fact 90 (f := .noat "Rules" "own_line") rfl), He.noat_ok (S.fact 91 (f := .noat "Rules" "own_hyphen") rfl), He.noat_ok (S.fact 92 (f := .noat "Rules" "own_unlike") rfl), He.noat_ok (S.fact 93 (f := .noat "Rules" "own_double") rfl), He.noat_ok (S.fact 94 (f := .noat "Rules" "own_last") rfl), He.noat_ok (S.fact 95 (f := .noat "Rules" "own_room") rfl), He.noat_ok (S.fact 96 (f := .noat "Rules" "own_looseness") rfl)⟩
  have LL : LC K (He.ga K "LineFacts") := ⟨He.cls_ok (S.fact 97 (f := .cls "LineFacts") rfl), He.noat_ok (S.fact 98 (f := .noat "LineFacts" "own_rules") rfl), He.noat_ok (S.fact 99 (f := .noat "LineFacts" "own_start") rfl), He.noat_ok (S.fact 100 (f := .noat "LineFacts" "own_is_last") rfl), He.noat_ok (S.fact 101 (f := .noat "LineFacts" "own_is_part") rfl), He.noat_ok (S.fact 102 (f := .noat "LineFacts" "own_penalty") rfl), He.noat_ok (S.fact 103 (f := .noat "LineFacts" "own_natural") rfl), He.noat_ok (S.fact 104 (f := .noat "LineFacts" "own_width") rfl), He.noat_ok (S.fact 105 (f := .noat "LineFacts" "own_rest") rfl), He.noat_ok (S.fact 106 (f := .noat "LineFacts" "own_stretches") rfl), He.noat_ok (S.fact 107 (f := .noat "LineFacts" "own_shrink") rfl), He.noat_ok (S.fact 108 (f := .noat "LineFacts" "own_too_full") rfl), He.noat_ok (S.fact 109 (f := .noat "LineFacts" "own_badness") rfl), He.noat_ok (S.fact 110 (f := .noat "LineFacts" "own_tightness") rfl), He.noat_ok (S.fact 111 (f := .noat "LineFacts" "own_is_wrong") rfl)⟩
  have D_is_whole_lengths : DefAt K mg "is_whole_lengths" "is_whole" "is_whole" st_is_whole_lengths := ⟨_, _, F_is_whole_lengths, He.glo_ok X N (S.fact 36 (f := .glo "is_whole_lengths") rfl)⟩
  have D_is_length : DefAt K mg "is_length" "is_length" "is_length" st_is_length := ⟨_, _, F_is_length, He.glo_ok X N (S.fact 37 (f := .glo "is_length") rfl)⟩
  have D_is_amount : DefAt K mg "is_amount" "is_amount" "is_amount" st_is_amount := ⟨_, _, F_is_amount, He.glo_ok X N (S.fact 38 (f := .glo "is_amount") rfl)⟩
  have D_is_order : DefAt K mg "is_order" "is_order" "is_order" st_is_order := ⟨_, _, F_is_order, He.glo_ok X N (S.fact 39 (f := .glo "is_order") rfl)⟩
  have D_is_whole_measures : DefAt K mg "is_whole_measures" "is_whole" "is_whole" st_is_whole_measures := ⟨_, _, F_is_whole_measures, He.glo_ok X N (S.fact 40 (f := .glo "is_whole_measures") rfl)⟩
  have D_is_within : DefAt K mg "is_within" "is_within" "is_within" st_is_within := ⟨_, _, F_is_within, He.glo_ok X N (S.fact 41 (f := .glo "is_within") rfl)⟩
  have D_is_measured_item : DefAt K mg "is_measured_item" "is_measured_item" "is_measured_item" st_is_measured_item := ⟨_, _, F_is_measured_item, He.glo_ok X N (S.fact 42 (f := .glo "is_measured_item") rfl)⟩
  have D_is_forced : DefAt K mg "is_forced" "is_forced" "is_forced" st_is_forced := ⟨_, _, F_is_forced, He.glo_ok X N (S.fact 43 (f := .glo "is_forced") rfl)⟩
  have D_stays : DefAt K mg "stays" "stays" "stays" st_stays := ⟨_, _, F_stays, He.glo_ok X N (S.fact 44 (f := .glo "stays") rfl)⟩
  have D_are_measured : DefAt K mg "are_measured" "are_measured" "are_measured" st_are_measured := ⟨_, _, F_are_measured, He.glo_ok X N (S.fact 45 (f := .glo "are_measured") rfl)⟩
  have D_are_widths : DefAt K mg "are_widths" "are_widths" "are_widths" st_are_widths := ⟨_, _, F_are_widths, He.glo_ok X N (S.fact 46 (f := .glo "are_widths") rfl)⟩
  have D_is_place : DefAt K mg "is_place" "is_place" "is_place" st_is_place := ⟨_, _, F_is_place, He.glo_ok X N (S.fact 47 (f := .glo "is_place") rfl)⟩
  have D_all_places : DefAt K mg "all_places" "all_places" "all_places" st_all_places := ⟨_, _, F_all_places, He.glo_ok X N (S.fact 48 (f := .glo "all_places") rfl)⟩
  have D_start_behind : DefAt K mg "start_behind" "start_behind" "start_behind" st_start_behind := ⟨_, _, F_start_behind, He.glo_ok X N (S.fact 49 (f := .glo "start_behind") rfl)⟩
  have D_places_behind : DefAt K mg "places_behind" "places_behind" "places_behind" st_places_behind := ⟨_, _, F_places_behind, He.glo_ok X N (S.fact 50 (f := .glo "places_behind") rfl)⟩
  have D_badness_by : DefAt K mg "badness_by" "badness_by" "badness_by" st_badness_by := ⟨_, _, F_badness_by, He.glo_ok X N (S.fact 51 (f := .glo "badness_by") rfl)⟩
  have D_natural_of : DefAt K mg "natural_of" "natural_of" "natural_of" st_natural_of := ⟨_, _, F_natural_of, He.glo_ok X N (S.fact 52 (f := .glo "natural_of") rfl)⟩
  have D_penalty_at : DefAt K mg "penalty_at" "penalty_at" "penalty_at" st_penalty_at := ⟨_, _, F_penalty_at, He.glo_ok X N (S.fact 53 (f := .glo "penalty_at") rfl)⟩
  have D_edge_widths : DefAt K mg "edge_widths" "edge_widths" "edge_widths" st_edge_widths := ⟨_, _, F_edge_widths, He.glo_ok X N (S.fact 54 (f := .glo "edge_widths") rfl)⟩
  have D_class_of : DefAt K mg "class_of" "class_of" "class_of" st_class_of := ⟨_, _, F_class_of, He.glo_ok X N (S.fact 55 (f := .glo "class_of") rfl)⟩
  have D_step_to : DefAt K mg "step_to" "step_to" "step_to" st_step_to := ⟨_, _, F_step_to, He.glo_ok X N (S.fact 56 (f := .glo "step_to") rfl)⟩
  have D_steps_from : DefAt K mg "steps_from" "steps_from" "steps_from" st_steps_from := ⟨_, _, F_steps_from, He.glo_ok X N (S.fact 57 (f := .glo "steps_from") rfl)⟩
  have D_added_cost : DefAt K mg "added_cost" "added_cost" "added_cost" st_added_cost := ⟨_, _, F_added_cost, He.glo_ok X N (S.fact 58 (f := .glo "added_cost") rfl)⟩
  have D_all_nodes : DefAt K mg "all_nodes" "all_nodes" "all_nodes" st_all_nodes := ⟨_, _, F_all_nodes, He.glo_ok X N (S.fact 59 (f := .glo "all_nodes") rfl)⟩
  have D_way_to : DefAt K mg "way_to" "way_to" "way_to" st_way_to := ⟨_, _, F_way_to, He.glo_ok X N (S.fact 60 (f := .glo "way_to") rfl)⟩
  have D_require_measured : DefAt K mg "require_measured" "require_measured" "require_measured" st_require_measured := ⟨_, _, F_require_measured, He.glo_ok X N (S.fact 62 (f := .glo "require_measured") rfl)⟩
  have D_require_wrong : DefAt K mg "require_wrong" "require_wrong" "require_wrong" st_require_wrong := ⟨_, _, F_require_wrong, He.glo_ok X N (S.fact 63 (f := .glo "require_wrong") rfl)⟩
  have D_law_dice : DefAt K mg "_law_dice" "_law_dice" "_law_dice" st_law_dice := ⟨_, _, F_law_dice, He.glo_ok X N (S.fact 65 (f := .glo "_law_dice") rfl)⟩
  have D_law_roll : DefAt K mg "_law_roll" "_law_roll" "_law_roll" st_law_roll := ⟨_, _, F_law_roll, He.glo_ok X N (S.fact 66 (f := .glo "_law_roll") rfl)⟩
  have D_law_pick : DefAt K mg "_law_pick" "_law_pick" "_law_pick" st_law_pick := ⟨_, _, F_law_pick, He.glo_ok X N (S.fact 67 (f := .glo "_law_pick") rfl)⟩
  have D_law_units_wide : DefAt K mg "_law_units_wide" "_law_units_wide" "_law_units_wide" st_law_units_wide := ⟨_, _, F_law_units_wide, He.glo_ok X N (S.fact 68 (f := .glo "_law_units_wide") rfl)⟩
  have D_law_measured : DefAt K mg "_law_measured" "_law_measured" "_law_measured" st_law_measured := ⟨_, _, F_law_measured, He.glo_ok X N (S.fact 69 (f := .glo "_law_measured") rfl)⟩
  have D_law_row_made : DefAt K mg "_law_row_made" "_law_row_made" "_law_row_made" st_law_row_made := ⟨_, _, F_law_row_made, He.glo_ok X N (S.fact 70 (f := .glo "_law_row_made") rfl)⟩
  have D_law_rules_drawn : DefAt K mg "_law_rules_drawn" "_law_rules_drawn" "_law_rules_drawn" st_law_rules_drawn := ⟨_, _, F_law_rules_drawn, He.glo_ok X N (S.fact 71 (f := .glo "_law_rules_drawn") rfl)⟩
  have D_law_rules_made : DefAt K mg "_law_rules_made" "_law_rules_made" "_law_rules_made" st_law_rules_made := ⟨_, _, F_law_rules_made, He.glo_ok X N (S.fact 72 (f := .glo "_law_rules_made") rfl)⟩
  have D_law_break_places : DefAt K mg "_law_break_places" "_law_break_places" "_law_break_places" st_law_break_places := ⟨_, _, F_law_break_places, He.glo_ok X N (S.fact 73 (f := .glo "_law_break_places") rfl)⟩
  have D_law_line_start : DefAt K mg "_law_line_start" "_law_line_start" "_law_line_start" st_law_line_start := ⟨_, _, F_law_line_start, He.glo_ok X N (S.fact 74 (f := .glo "_law_line_start") rfl)⟩
  have D_law_places_behind : DefAt K mg "_law_places_behind" "_law_places_behind" "_law_places_behind" st_law_places_behind := ⟨_, _, F_law_places_behind, He.glo_ok X N (S.fact 75 (f := .glo "_law_places_behind") rfl)⟩
  have D_law_line_badness : DefAt K mg "_law_line_badness" "_law_line_badness" "_law_line_badness" st_law_line_badness := ⟨_, _, F_law_line_badness, He.glo_ok X N (S.fact 76 (f := .glo "_law_line_badness") rfl)⟩
  have D_law_line_told : DefAt K mg "_law_line_told" "_law_line_told" "_law_line_told" st_law_line_told := ⟨_, _, F_law_line_told, He.glo_ok X N (S.fact 77 (f := .glo "_law_line_told") rfl)⟩
  have D_law_line_demerits : DefAt K mg "_law_line_demerits" "_law_line_demerits" "_law_line_demerits" st_law_line_demerits := ⟨_, _, F_law_line_demerits, He.glo_ok X N (S.fact 78 (f := .glo "_law_line_demerits") rfl)⟩
  have D_law_step_told : DefAt K mg "_law_step_told" "_law_step_told" "_law_step_told" st_law_step_told := ⟨_, _, F_law_step_told, He.glo_ok X N (S.fact 79 (f := .glo "_law_step_told") rfl)⟩
  have D_law_sum_of : DefAt K mg "_law_sum_of" "_law_sum_of" "_law_sum_of" st_law_sum_of := ⟨_, _, F_law_sum_of, He.glo_ok X N (S.fact 80 (f := .glo "_law_sum_of") rfl)⟩
  have D_law_all_ways : DefAt K mg "_law_all_ways" "_law_all_ways" "_law_all_ways" st_law_all_ways := ⟨_, _, F_law_all_ways, He.glo_ok X N (S.fact 81 (f := .glo "_law_all_ways") rfl)⟩
  have D_law_least_told : DefAt K mg "_law_least_told" "_law_least_told" "_law_least_told" st_law_least_told := ⟨_, _, F_law_least_told, He.glo_ok X N (S.fact 82 (f := .glo "_law_least_told") rfl)⟩
  have D_law_way_cost : DefAt K mg "_law_way_cost" "_law_way_cost" "_law_way_cost" st_law_way_cost := ⟨_, _, F_law_way_cost, He.glo_ok X N (S.fact 83 (f := .glo "_law_way_cost") rfl)⟩
  have D_law_told_right : DefAt K mg "_law_told_right" "_law_told_right" "_law_told_right" st_law_told_right := ⟨_, _, F_law_told_right, He.glo_ok X N (S.fact 84 (f := .glo "_law_told_right") rfl)⟩
  have D_law_right : DefAt K mg "_law_right" "_law_right" "_law_right" st_law_right := ⟨_, _, F_law_right, He.glo_ok X N (S.fact 85 (f := .glo "_law_right") rfl)⟩
  have D_told_nodes : DefAtC K mg "told_nodes" "told_nodes" "told_nodes" st_told_nodes (He.cT K ("told_nodes", none)).1 := ⟨_, _, F_told_nodes, He.glo_ok X N (S.fact 61 (f := .glo "told_nodes") rfl), code_of F_told_nodes⟩
  have D_badness_here : DefM K (He.ga K "LineFacts") "badness_here" "badness_here" "LineFacts.badness_here" st_LineFacts_badness_here := ⟨_, _, F_LineFacts_badness_here, He.meth_ok (S.fact 112 (f := .meth "LineFacts" "badness_here") rfl)⟩
  have D_demerits_behind : DefM K (He.ga K "LineFacts") "demerits_behind" "demerits_behind" "LineFacts.demerits_behind" st_LineFacts_demerits_behind := ⟨_, _, F_LineFacts_demerits_behind, He.meth_ok (S.fact 113 (f := .meth "LineFacts" "demerits_behind") rfl)⟩
  have D_lf_init : DefI K (He.ga K "LineFacts") "__init__" "LineFacts.__init__" st_LineFacts___init__ := ⟨_, _, F_LineFacts___init__, He.mkr_ok (S.fact 114 (f := .mkr "LineFacts") rfl)⟩
  have k_Glue := He.mkr_ok (S.fact 115 (f := .mkr "Glue") rfl)
  have k_Rules := He.mkr_ok (S.fact 116 (f := .mkr "Rules") rfl)
  have e := c.ex_
  unfold ex at e
  obtain ⟨e0, e⟩ := He.ba e
  obtain ⟨e1, e⟩ := He.ba e
  obtain ⟨e2, e⟩ := He.ba e
  obtain ⟨e3, e⟩ := He.ba e
  obtain ⟨e4, e⟩ := He.ba e
  obtain ⟨e5, e⟩ := He.ba e
  obtain ⟨e6, e⟩ := He.ba e
  obtain ⟨e7, e⟩ := He.ba e
  obtain ⟨e8, e⟩ := He.ba e
  obtain ⟨e9, e⟩ := He.ba e
  obtain ⟨e10, e⟩ := He.ba e
  obtain ⟨e11, e⟩ := He.ba e
  obtain ⟨e12, e⟩ := He.ba e
  have KF := kfst_of e0
  obtain ⟨r1, r2, r3, r4⟩ := isi_of e1
  have R2 : RI K (He.ga K "Rules") := ⟨r1, r2, r3, r4, own_of⟩
  obtain ⟨q1, q2, q3, q4⟩ := isi_of e2
  have SC := scls_of e3
  have GIh : GI K (He.ga K "Glue") := ⟨SC, slot_of e4 (by decide), slot_of e5 (by decide), slot_of e6 (by decide), slot_of e7 (by decide), slot_of e8 (by decide)⟩
  obtain ⟨⟨fg0, G0⟩, g0⟩ := c.get_ 0 (d := K51H.g0) rfl
  obtain ⟨⟨fg1, G1⟩, g1⟩ := c.get_ 1 (d := K51H.g1) rfl
  obtain ⟨⟨fg2, G2⟩, g2⟩ := c.get_ 2 (d := K51H.g2) rfl
  obtain ⟨⟨fg3, G3⟩, g3⟩ := c.get_ 3 (d := K51H.g3) rfl
  obtain ⟨⟨fg4, G4⟩, g4⟩ := c.get_ 4 (d := K51H.g4) rfl
  obtain ⟨mA, gkA⟩ := glue_kA F_Glue___init__
  obtain ⟨mB, gkB⟩ := glue_kB F_Glue___init__
  obtain ⟨mC, gkC⟩ := glue_kC F_Glue___init__
  obtain ⟨nA, rkA⟩ := rules_kA F_Rules___init__
  obtain ⟨nB, rkB⟩ := rules_kB F_Rules___init__
  obtain ⟨nD, rv, rkD⟩ := rules_kD F_Rules___init__
  obtain ⟨lA, lkA⟩ := least_kA F_least_breaks
  obtain ⟨lD, lv, lkD⟩ := least_kD F_least_breaks
  have ef := hf.symm.trans (He.glo_ok X N (S.fact 86 (f := .glo "law") rfl))
  cases ef
  have bl := FunD.bindsA (ps := ["_law_script"]) F_law fun _ _ _ _ _ _ us hl => match us, hl with | [_], _ => rfl
  refine ⟨fd_law, [He.cT K ("told_nodes", none)], sp_law K (He.cT K ("told_nodes", none)).2, fun p hp => ?_, fun p hp => ?_, fun p hp => ?_, fun s v => bl s [v] rfl, fun H a ns _ _ hH hS => ⟨a, ns, rfl, hS, fun p hp => ?_, fun _ => rfl⟩, fun base KB NB TBs => ?_⟩
  · rw [List.mem_singleton.mp hp]
    exact c.x.empty _ (List.mem_singleton.mpr rfl)
  · rw [List.mem_singleton.mp hp]
    exact c.x.out _ (List.mem_singleton.mpr rfl)
  · rw [List.mem_singleton.mp hp]
    exact PySem.W.codeHd_of_K X (c.x.hd _ (List.mem_singleton.mpr rfl))
  · rw [List.mem_singleton.mp hp]
    exact TabS.nil (hH _ (List.mem_singleton.mpr rfl))
  have TB := TBs _ (List.mem_singleton.mpr rfl)
  let P := PySem.Challenge.rw_pagewright_k51_whole_least_ways.prog
  have GG : GC PySem.Challenge.rw_pagewright_k51_whole_least_ways.prog w K mg base (He.ga K "Glue") := ⟨SC, ⟨q1, q2, q3, q4⟩, prop_of e9 g0 (ok_get_natural GIh G0), prop_of e10 g1 (ok_get_shrink GIh G1), prop_of e11 g2 (ok_get_shrink_order GIh G2), prop_of e12 g3 (ok_get_stretch GIh G3), prop_of e g4 (ok_get_stretch_order GIh G4), own_of⟩
  have c_is_whole_measures := ok_is_whole_measures (P := PySem.Challenge.rw_pagewright_k51_whole_least_ways.prog) (w := w) (base := base) T D_is_whole_measures
  have c_is_whole_lengths := ok_is_whole_lengths (P := PySem.Challenge.rw_pagewright_k51_whole_least_ways.prog) (w := w) (base := base) T D_is_whole_lengths
  have c_is_length := ok_is_length (P := PySem.Challenge.rw_pagewright_k51_whole_least_ways.prog) (w := w) (base := base) T D_is_length c_is_whole_lengths
  have c_is_amount := ok_is_amount (P := PySem.Challenge.rw_pagewright_k51_whole_least_ways.prog) (w := w) (base := base) T D_is_amount c_is_length
  have c_is_order := ok_is_order (P := PySem.Challenge.rw_pagewright_k51_whole_least_ways.prog) (w := w) (base := base) T D_is_order c_is_whole_lengths
  have c_is_within := ok_is_within (P := PySem.Challenge.rw_pagewright_k51_whole_least_ways.prog) (w := w) (base := base) T D_is_within c_is_whole_measures
  have c_is_forced := ok_is_forced (P := PySem.Challenge.rw_pagewright_k51_whole_least_ways.prog) (w := w) (base := base) T D_is_forced
  have c_stays := ok_stays (P := PySem.Challenge.rw_pagewright_k51_whole_least_ways.prog) (w := w) (base := base) T D_stays
  have c_class_of := ok_class_of (P := PySem.Challenge.rw_pagewright_k51_whole_least_ways.prog) (w := w) (base := base) T D_class_of
  have c_badness_by := ok_badness_by (P := PySem.Challenge.rw_pagewright_k51_whole_least_ways.prog) (w := w) (base := base) T D_badness_by
  have c_natural_of := ok_natural_of (P := PySem.Challenge.rw_pagewright_k51_whole_least_ways.prog) (w := w) (base := base) T GG D_natural_of
  have c_added_cost := ok_added_cost (P := PySem.Challenge.rw_pagewright_k51_whole_least_ways.prog) (w := w) (base := base) T D_added_cost
  have c_penalty_at := ok_penalty_at (P := PySem.Challenge.rw_pagewright_k51_whole_least_ways.prog) (w := w) (base := base) T RR D_penalty_at c_is_forced
  have c_edge_widths := ok_edge_widths (P := PySem.Challenge.rw_pagewright_k51_whole_least_ways.prog) (w := w) (base := base) T D_edge_widths
  have c_is_place := ok_is_place (P := PySem.Challenge.rw_pagewright_k51_whole_least_ways.prog) (w := w) (base := base) T RR D_is_place c_stays
  have c_all_places := ok_all_places (P := PySem.Challenge.rw_pagewright_k51_whole_least_ways.prog) (w := w) (base := base) T D_all_places c_is_place
  have c_start_behind := ok_start_behind (P := PySem.Challenge.rw_pagewright_k51_whole_least_ways.prog) (w := w) (base := base) T D_start_behind c_stays c_is_forced
  have c_places_behind := ok_places_behind (P := PySem.Challenge.rw_pagewright_k51_whole_least_ways.prog) (w := w) (base := base) T D_places_behind c_start_behind c_is_place c_is_forced
  have c_badness_here := ok_badness_here (P := PySem.Challenge.rw_pagewright_k51_whole_least_ways.prog) (w := w) (base := base) T LL D_badness_here c_badness_by
  have c_LineFacts := ok_lf_init (P := PySem.Challenge.rw_pagewright_k51_whole_least_ways.prog) (w := w) (base := base) T LL RR GG D_lf_init c_start_behind c_penalty_at c_natural_of c_edge_widths c_class_of c_badness_here
  have c_demerits_behind := ok_demerits_behind (P := PySem.Challenge.rw_pagewright_k51_whole_least_ways.prog) (w := w) (base := base) T LL RR D_demerits_behind
  have c_step_to := ok_step_to (P := PySem.Challenge.rw_pagewright_k51_whole_least_ways.prog) (w := w) (base := base) T KF LL D_step_to c_LineFacts c_demerits_behind
  have c_steps_from := ok_steps_from (P := PySem.Challenge.rw_pagewright_k51_whole_least_ways.prog) (w := w) (base := base) T KF D_steps_from c_step_to c_places_behind
  have c_all_nodes := ok_all_nodes (P := PySem.Challenge.rw_pagewright_k51_whole_least_ways.prog) (w := w) (base := base) T KF D_all_nodes c_all_places c_steps_from c_added_cost
  have c_way_to := ok_way_to (P := PySem.Challenge.rw_pagewright_k51_whole_least_ways.prog) (w := w) (base := base) T KF D_way_to
  have c_told_nodes := ok_told_nodes (P := PySem.Challenge.rw_pagewright_k51_whole_least_ways.prog) (w := w) (base := base) T KF RR TB D_told_nodes
  have i_Glue := ok_glue_init (P := PySem.Challenge.rw_pagewright_k51_whole_least_ways.prog) (w := w) (base := base) T GIh F_Glue___init__ c_is_length c_is_amount c_is_order
  have M_gA : MkK PySem.Challenge.rw_pagewright_k51_whole_least_ways.prog w K mg base (He.ga K "Glue") gluePs 4 (sp_glue_init (He.ga K "Glue")) 1 ["stretch", "stretch_order", "shrink"] (fun vs zs => gA vs [.int 0] zs) := ⟨⟨_, _, _, k_Glue, i_Glue, gkA⟩⟩
  have M_gB : MkK PySem.Challenge.rw_pagewright_k51_whole_least_ways.prog w K mg base (He.ga K "Glue") gluePs 4 (sp_glue_init (He.ga K "Glue")) 1 ["stretch", "shrink"] (fun vs zs => gB vs [.int 0, .int 0] zs) := ⟨⟨_, _, _, k_Glue, i_Glue, gkB⟩⟩
  have M_gC : MkK PySem.Challenge.rw_pagewright_k51_whole_least_ways.prog w K mg base (He.ga K "Glue") gluePs 4 (sp_glue_init (He.ga K "Glue")) 1 ["stretch", "stretch_order"] (fun vs zs => gA vs [.int 0, .int 0] zs) := ⟨⟨_, _, _, k_Glue, i_Glue, gkC⟩⟩
  have c_is_measured_item := ok_is_measured_item (P := PySem.Challenge.rw_pagewright_k51_whole_least_ways.prog) (w := w) (base := base) T GG D_is_measured_item c_is_length c_is_within
  have c_are_measured := ok_are_measured (P := PySem.Challenge.rw_pagewright_k51_whole_least_ways.prog) (w := w) (base := base) T D_are_measured c_is_measured_item c_is_forced
  have c_are_widths := ok_are_widths (P := PySem.Challenge.rw_pagewright_k51_whole_least_ways.prog) (w := w) (base := base) T D_are_widths c_is_length
  have c_require_measured := ok_require_measured (P := PySem.Challenge.rw_pagewright_k51_whole_least_ways.prog) (w := w) (base := base) T RR R2 D_require_measured c_are_measured
  have c_require_wrong := ok_require_wrong (P := PySem.Challenge.rw_pagewright_k51_whole_least_ways.prog) (w := w) (base := base) T D_require_wrong c_require_measured
  have i_Rules := ok_rules_init (P := PySem.Challenge.rw_pagewright_k51_whole_least_ways.prog) (w := w) (base := base) T RR F_Rules___init__ c_are_widths c_is_within c_is_length
  have M_rA : MkK PySem.Challenge.rw_pagewright_k51_whole_least_ways.prog w K mg base (He.ga K "Rules") rulesPs 4 (sp_rules_init (He.ga K "Rules")) 1 ["tolerance", "line", "hyphen", "unlike", "double", "last", "room", "looseness"] (fun vs zs => gA vs [] zs) := ⟨⟨_, _, _, k_Rules, i_Rules, rkA⟩⟩
  have M_rB : MkK PySem.Challenge.rw_pagewright_k51_whole_least_ways.prog w K mg base (He.ga K "Rules") rulesPs 4 (sp_rules_init (He.ga K "Rules")) 1 ["tolerance"] (fun vs zs => gA vs [.int 10, .int 50, .int 10000, .int 10000, .int 5000, .int 0, .int 0] zs) := ⟨⟨_, _, _, k_Rules, i_Rules, rkB⟩⟩
  have M_rD : MkD PySem.Challenge.rw_pagewright_k51_whole_least_ways.prog w K mg base (He.ga K "Rules") rulesPs 4 (sp_rules_init (He.ga K "Rules")) (rulesKw.map (·.2)) := ⟨⟨_, _, _, k_Rules, i_Rules, rv, rkD⟩⟩
  have c_least_breaks := ok_least_breaks (P := PySem.Challenge.rw_pagewright_k51_whole_least_ways.prog) (w := w) (base := base) T KF F_least_breaks c_require_wrong c_all_nodes c_told_nodes c_way_to
  have K_least : CalK PySem.Challenge.rw_pagewright_k51_whole_least_ways.prog w K mg base "least_breaks" ["row", "rules", "wrong"] 9 (sp_least (He.ga K "Glue") (He.ga K "Rules") (He.cT K ("told_nodes", none)).2) 2 ["wrong"] (fun vs zs => gA vs [] zs) := ⟨⟨_, _, _, c_least_breaks, He.glo_ok X N (S.fact 64 (f := .glo "least_breaks") rfl), F_least_breaks.kp, lkA⟩⟩
  have D_least : CalD PySem.Challenge.rw_pagewright_k51_whole_least_ways.prog w K mg base "least_breaks" ["row", "rules", "wrong"] 9 (sp_least (He.ga K "Glue") (He.ga K "Rules") (He.cT K ("told_nodes", none)).2) [.bl false] := ⟨⟨_, _, _, c_least_breaks, He.glo_ok X N (S.fact 64 (f := .glo "least_breaks") rfl), F_least_breaks.kp, lv, lkD⟩⟩
  have c_law_roll := ok_law_roll (P := PySem.Challenge.rw_pagewright_k51_whole_least_ways.prog) (w := w) (base := base) T D_law_roll
  have c_law_pick := ok_law_pick (P := PySem.Challenge.rw_pagewright_k51_whole_least_ways.prog) (w := w) (base := base) T D_law_pick c_law_roll
  have c_law_units_wide := ok_law_units_wide (P := PySem.Challenge.rw_pagewright_k51_whole_least_ways.prog) (w := w) (base := base) T D_law_units_wide c_law_roll
  have c_law_dice := ok_law_dice (P := PySem.Challenge.rw_pagewright_k51_whole_least_ways.prog) (w := w) (base := base) T D_law_dice
  have c_law_break_places := ok_law_break_places (P := PySem.Challenge.rw_pagewright_k51_whole_least_ways.prog) (w := w) (base := base) T D_law_break_places
  have c_law_line_start := ok_law_line_start (P := PySem.Challenge.rw_pagewright_k51_whole_least_ways.prog) (w := w) (base := base) T D_law_line_start
  have c_law_places_behind := ok_law_places_behind (P := PySem.Challenge.rw_pagewright_k51_whole_least_ways.prog) (w := w) (base := base) T D_law_places_behind c_law_line_start c_law_break_places
  have c_law_line_badness := ok_law_line_badness (P := PySem.Challenge.rw_pagewright_k51_whole_least_ways.prog) (w := w) (base := base) T D_law_line_badness
  have c_law_sum_of := ok_law_sum_of (P := PySem.Challenge.rw_pagewright_k51_whole_least_ways.prog) (w := w) (base := base) T D_law_sum_of
  have c_law_line_told := ok_law_line_told (P := PySem.Challenge.rw_pagewright_k51_whole_least_ways.prog) (w := w) (base := base) T D_law_line_told c_law_line_start c_law_line_badness
  have c_law_line_demerits := ok_law_line_demerits (P := PySem.Challenge.rw_pagewright_k51_whole_least_ways.prog) (w := w) (base := base) T D_law_line_demerits
  have c_law_step_told := ok_law_step_told (P := PySem.Challenge.rw_pagewright_k51_whole_least_ways.prog) (w := w) (base := base) T D_law_step_told c_law_line_told c_law_line_demerits
  have c_law_all_ways := ok_law_all_ways (P := PySem.Challenge.rw_pagewright_k51_whole_least_ways.prog) (w := w) (base := base) T D_law_all_ways c_law_places_behind c_law_step_told c_law_sum_of
  have c_law_least_told := ok_law_least_told (P := PySem.Challenge.rw_pagewright_k51_whole_least_ways.prog) (w := w) (base := base) T D_law_least_told
  have c_law_way_cost := ok_law_way_cost (P := PySem.Challenge.rw_pagewright_k51_whole_least_ways.prog) (w := w) (base := base) T D_law_way_cost c_law_places_behind c_law_step_told c_law_sum_of
  have c_law_measured := ok_law_measured (P := PySem.Challenge.rw_pagewright_k51_whole_least_ways.prog) (w := w) (base := base) T D_law_measured c_law_roll c_law_pick c_law_units_wide
  have c_law_row_made := ok_law_row_made (P := PySem.Challenge.rw_pagewright_k51_whole_least_ways.prog) (w := w) (base := base) T M_gA D_law_row_made
  have c_law_rules_drawn := ok_law_rules_drawn (P := PySem.Challenge.rw_pagewright_k51_whole_least_ways.prog) (w := w) (base := base) T D_law_rules_drawn c_law_roll c_law_pick
  have c_law_rules_made := ok_law_rules_made (P := PySem.Challenge.rw_pagewright_k51_whole_least_ways.prog) (w := w) (base := base) T M_rA D_law_rules_made
  have c_law_told_right := ok_law_told_right (P := PySem.Challenge.rw_pagewright_k51_whole_least_ways.prog) (w := w) (base := base) T D_law_told_right K_least c_law_row_made c_law_rules_made c_law_least_told c_law_way_cost
  have c_law_right := ok_law_right (P := PySem.Challenge.rw_pagewright_k51_whole_least_ways.prog) (w := w) (base := base) T D_law_right K_least c_law_row_made c_law_rules_made c_law_pick c_law_measured c_law_rules_drawn c_law_all_ways c_law_told_right
  exact ok_law T F_law D_least M_gB M_gC M_rB M_rD c_law_dice c_law_right
end K51H
set_option Elab.async false
set_option linter.all false
set_option maxRecDepth 100000
set_option maxHeartbeats 4000000
open PySem PySem.W PySem.Calls PyProof.Rows
theorem PySem.Challenge.cw_pagewright_k51_whole_least_ways_holds : PySem.Challenge.rw_pagewright_k51_whole_least_ways.Holds := by
  w_on; o_law
  refine HandSHeadRun.head_any (r := OpenLaw.row PySem.Challenge.rw_pagewright_k51_whole_least_ways) (q := view (OpenLaw.row PySem.Challenge.rw_pagewright_k51_whole_least_ways).prog [96]) (H := K51H.hk) (ob := K51H.ob) (M := 8000) (loose := K51H.names) (d := HandSHeadRun.topDef (OpenLaw.row PySem.Challenge.rw_pagewright_k51_whole_least_ways).prog 96) (kwd := []) K51H.ob_eq
    (by kernel_rfl) (fun s => by kernel_rfl) K51H.run (by kernel_rfl) (by kernel_rfl) (by kernel_rfl) (by rfl) (by first | assumption | decide +kernel) (by decide +kernel) ⟨rfl, rfl, rfl, rfl, rfl, by decide +kernel⟩ ?hw ?hc
  case hw => w_witness2
  case hc =>
    refine LamX.walk_ofTsE (l := PySem.Challenge.rw_pagewright_k51_whole_least_ways) (n := 63) (k := 12) (x := "_law_script") (CX := fun _ => L2.CX0) rfl (by decide) (by kernel_rfl) ⟨rfl, by decide, by decide⟩ ?F (fun _ _ _ _ _ z => z)
    intro w mg fa h Y G hmg0
    obtain ⟨K, KX, c⟩ := Y
    have e : (HandSHeadRun.topDef (OpenLaw.row PySem.Challenge.rw_pagewright_k51_whole_least_ways).prog 96).name = ("law" : PySem.Str) := by kernel_rfl
    rw [e] at hmg0
    exact ⟨K, KX, K51H.lawAt KX G hmg0 c⟩
