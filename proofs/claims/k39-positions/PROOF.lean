import PyProof.Rows.All
import Wide.All
import OpenK.AllK
import Wide.FinOn
import KE.KStateDown
import HandS.ForMost
import HandS.Wide
import HandS.IsInst
import HandS.Defaults
import HandS.Property
import HandS.More
import HandS.Style
import HandS.ClsMeth
import HandS.SlotsOwn
import HandS.Head0
import HandS.Head1
import HandS.Head2
import HandS.HeadEnd
import HandS.HeadHook1
import HandS.HeadHook2
import HandS.HeadNt
import HandS.Lambda
import HandS.FStr
import KE.KOpsOwn
import KE.KCallOwn
import KE.KFmtOwn
import HandS.TryOnly
import HandS.Nested
import HandS.ExcInit
import HandS.ExcField
import HandS.MakeKw
import HandS.TryMany
import HandS.ExcOwn
import KE.KExcSuper
import HandS.EndTab
import HandS.Zip
import HandS.Star
import HandS.Text
import HandS.Conv
import HandS.TupAny
import HandS.GenList
import HandS.SetFor
import HandS.SortInts
import HandS.Strs
import KE.KExcIs
import KE.GoesMore
import HandS.TupMul
import PySem.Challenge.RW_anyfifth_k39_positions_compared
set_option Elab.async false
set_option linter.all false
set_option maxRecDepth 100000
set_option maxHeartbeats 4000000
/-! G: own layer over HandS: heap relations, general operators, step lemmas, a stepping line, the head's facts as Bools. -/
namespace G
open PySem PySem.Spec PyProof.Rows L2

/-! ### heaps -/
/-- no table of code objects -/
def nt : HO → Bool
  | .tbl _ => false
  | _ => true
/-- the names of the law's lambdas, by line and column -/
def NM : Nat → Nat → Str := fun _ _ => ""
/-- at P: a table of code objects, each with the name that its place has -/
def TabP (H : Hp) (P : Addr) : Prop := ∃ ps : Array Value, H P = some (.tbl ps) ∧ TriplesOk ps.toList ∧ ∀ (pos : Pos) (cv : Value), codeAmong pos ps.toList = some cv → ∃ c, cv = .ref c ∧ H c = some (LamX.CodeO c (NM pos.line pos.col))
theorem TabP.ext {H H' : Hp} {P : Addr} (t : TabP H P) (e : ∀ b o, H b = some o → H' b = some o) : TabP H' P := by
  obtain ⟨ps, h1, h2, h3⟩ := t
  refine ⟨ps, e _ _ h1, h2, fun pos cv hc => ?_⟩
  obtain ⟨c, e1, e2⟩ := h3 pos cv hc
  exact ⟨c, e1, e _ _ e2⟩
theorem TabP.nil {H : Hp} {P : Addr} (h : H P = some (.tbl #[])) : TabP H P := ⟨#[], h, True.intro, fun pos cv hc => by
  have z : codeAmong pos [] = some cv := hc
  simp [codeAmong] at z⟩
/-- all that was tracked is as it was; the tables of code objects may tell more, and are still such tables -/
structure Kp (H H' : Hp) : Prop where
  all : ∀ b o, H b = some o → (z : nt o = true := by first | rfl | assumption) → H' b = some o
  gone : ∀ b, H' b = .none → H b = .none
  tb : ∀ P, TabP H P → TabP H' P
instance {H H' : Hp} : CoeFun (Kp H H') fun _ => ∀ b o, H b = some o → (z : nt o = true := by first | rfl | assumption) → H' b = some o := ⟨fun k => @Kp.all _ _ k⟩
/-- the list at p was changed, all else is as it was -/
structure Md (p : Addr) (H H' : Hp) : Prop where
  was : ∃ xs, H p = some (.lst xs)
  now : ∃ xs, H' p = some (.lst xs)
  all : ∀ b o, b ≠ p → H b = some o → (z : nt o = true := by first | rfl | assumption) → H' b = some o
  gone : ∀ b, H' b = .none → H b = .none
  tb : ∀ P, TabP H P → TabP H' P
theorem Kp.refl {H : Hp} : Kp H H := ⟨fun _ _ h _ => h, fun _ h => h, fun _ h => h⟩
theorem Kp.trans {H H1 H2 : Hp} (a : Kp H H1) (b : Kp H1 H2) : Kp H H2 := ⟨fun c o h z => b.all c o (a.all c o h z) z, fun c h => a.gone c (b.gone c h), fun P h => b.tb P (a.tb P h)⟩
/-- nothing at all changes -/
theorem Kp.of {H H' : Hp} (h : ∀ b o, H b = some o → H' b = some o) : Kp H H' := by
  refine ⟨fun b o e _ => h b o e, fun b e => ?_, fun P t => t.ext h⟩
  cases q : H b with
  | none => rfl
  | some o => rw [h b o q] at e; cases e
theorem Kp.new {H : Hp} {p : Addr} {o : HO} (h : H p = .none) : Kp H (upd H p o) := .of fun a u e => by rw [upd_ne (ne_of_none e h)]; exact e
theorem Kp.at {H H' : Hp} {a : Addr} {o : HO} (k : Kp H H') (h : H a = some o) (z : nt o = true := by first | rfl | assumption) : H' a = some o := k.all a o h z
theorem Kp.back {H H' : Hp} {a : Addr} (k : Kp H H') (h : H' a = .none) : H a = .none := k.gone a h
theorem Md.back {p : Addr} {H H' : Hp} {a : Addr} (k : Md p H H') (h : H' a = .none) : H a = .none := k.gone a h
section
variable {H H' H1 H2 : Hp} {p a : Addr} {xs ys : List V} {C dx : Addr} {fs : List (Str × V)} {o u : HO} {ob : Obj} {kvs : List (Key × V)} {φ : Heap → Prop}
theorem Md.kp (k : Md p H H') (b : Addr) (o : HO) (n : b ≠ p) (h : H b = some o) (z : nt o = true := by first | rfl | assumption) : H' b = some o := k.all b o n h z
theorem Md.ins (k : Md p H H') (h : H a = some (.ins C dx fs)) : H' a = some (.ins C dx fs) := by
  obtain ⟨zs, e⟩ := k.was
  exact k.kp a _ (ne_of h e (fun z => by cases z)) h
theorem Md.tup (k : Md p H H') (h : H a = some (.tup xs)) : H' a = some (.tup xs) := by
  obtain ⟨zs, e⟩ := k.was
  exact k.kp a _ (ne_of h e (fun z => by cases z)) h
theorem Md.frz (k : Md p H H') (h : H a = some (.frz ob u)) : H' a = some (.frz ob u) := by
  obtain ⟨zs, e⟩ := k.was
  exact k.kp a _ (ne_of h e (fun z => by cases z)) h
theorem Md.dK (k : Md p H H') (h : H a = some (.dK kvs)) : H' a = some (.dK kvs) := by
  obtain ⟨zs, e⟩ := k.was
  exact k.kp a _ (ne_of h e (fun z => by cases z)) h
theorem Md.lst (k : Md p H H') (h : H a = some (.lst xs)) (n : a ≠ p) : H' a = some (.lst xs) := k.kp a _ n h
theorem Md.trans (j : Md p H H1) (k : Md p H1 H2) : Md p H H2 := ⟨j.was, k.now, fun b o n h z => k.all b o n (j.all b o n h z) z, fun b e => j.gone b (k.gone b e), fun P t => k.tb P (j.tb P t)⟩
theorem Md.of_kp (h : H p = some (.lst xs)) (k : Kp H H') : Md p H H' := ⟨⟨xs, h⟩, ⟨xs, k _ _ h⟩, fun b o _ e z => k.all b o e z, k.gone, k.tb⟩
theorem Md.kp_r (j : Md p H H1) (k : Kp H1 H2) : Md p H H2 := ⟨j.was, let ⟨xs, e⟩ := j.now; ⟨xs, k _ _ e⟩, fun b o n h z => k.all b o (j.all b o n h z) z, fun b e => j.gone b (k.gone b e), fun P t => k.tb P (j.tb P t)⟩
theorem Kp.md_r (j : Kp H H1) (k : Md p H1 H2) (h : H p = some (.lst xs)) : Md p H H2 := ⟨⟨xs, h⟩, k.now, fun b o n h z => k.all b o n (j.all b o h z) z, fun b e => j.gone b (k.gone b e), fun P t => k.tb P (j.tb P t)⟩
/-- a new list changes: nothing of before changes -/
theorem Kp.md_new (j : Kp H H1) (k : Md p H1 H2) (h : H p = .none) : Kp H H2 := ⟨fun b o e z => k.all b o (ne_of_none e h) (j.all b o e z) z, fun b e => j.gone b (k.gone b e), fun P t => k.tb P (j.tb P t)⟩
theorem Md.md_new {q : Addr} (j : Md p H H1) (k : Md q H1 H2) (h : H q = .none) : Md p H H2 := by
  refine ⟨j.was, ?_, fun b o n e z => k.all b o (ne_of_none e h) (j.all b o n e z) z, fun b e => j.gone b (k.gone b e), fun P t => k.tb P (j.tb P t)⟩
  obtain ⟨xs, e⟩ := j.now
  obtain ⟨zs, w⟩ := j.was
  exact ⟨xs, k.kp p _ (ne_of_none w h) e⟩
/-- a table's facts where one object that is no table and no code object is written -/
theorem tab_upd {P : Addr} (h : H p = some o) (hz : nt o = true) (he : ∀ c q, o ≠ LamX.CodeO c q) (t : TabP H P) : TabP (L2.upd H p u) P := by
  obtain ⟨ps, h1, h2, h3⟩ := t
  refine ⟨ps, by rw [upd_ne (ne_of h1 h (fun z => by subst z; cases hz))]; exact h1, h2, fun pos cv hc => ?_⟩
  obtain ⟨c, e1, e2⟩ := h3 pos cv hc
  exact ⟨c, e1, by rw [upd_ne (ne_of e2 h (fun z => he c _ z.symm))]; exact e2⟩
theorem none_upd (h : H p = some o) : ∀ b, L2.upd H p u b = .none → H b = .none := fun b e => by
  by_cases z : b = p
  · rw [z, upd_same] at e
    cases e
  · rw [upd_ne z] at e
    exact e
theorem lst_code {c : Addr} {q : Str} : HO.lst xs ≠ LamX.CodeO c q := fun z => by
  unfold LamX.CodeO at z
  cases z
theorem ins_code {c : Addr} {q : Str} : HO.ins C dx fs ≠ LamX.CodeO c q := fun z => by
  unfold LamX.CodeO at z
  cases z
theorem dK_code {c : Addr} {q : Str} : HO.dK kvs ≠ LamX.CodeO c q := fun z => by
  unfold LamX.CodeO at z
  cases z
theorem Md.upd (h : H p = some (.lst xs)) : Md p H (L2.upd H p (.lst ys)) := ⟨⟨xs, h⟩, ⟨ys, upd_same⟩, fun b o n e _ => by rw [upd_ne n]; exact e, none_upd h, fun P t => tab_upd h rfl (fun _ _ => lst_code) t⟩
theorem TabP.kp {P : Addr} (k : Kp H H') (t : TabP H P) : TabP H' P := k.tb P t
theorem TabP.md {P : Addr} (k : Md p H H') (t : TabP H P) : TabP H' P := k.tb P t
theorem SqT.kp {K : PySem.W.Frag} (k : Kp H H') (h : SqT K H a xs) : SqT K H' a xs := by
  rcases h with (h | ⟨o, h⟩) | h
  · exact .inl (.inl (k _ _ h))
  · exact .inl (.inr ⟨o, k _ _ h⟩)
  · exact .inr h
theorem SqT.md {K : PySem.W.Frag} (k : Md p H H') (h : SqT K H a xs) : SqT K H' a xs := by
  rcases h with (h | ⟨o, h⟩) | h
  · exact .inl (.inl (k.tup h))
  · exact .inl (.inr ⟨o, k.frz h⟩)
  · exact .inr h
theorem SqL.kp {K : PySem.W.Frag} (k : Kp H H') (h : SqL K H a xs) : SqL K H' a xs := by
  rcases h with (h | ⟨o, h⟩) | h
  · exact .inl (.inl (k _ _ h))
  · exact .inl (.inr ⟨o, k _ _ h⟩)
  · exact .inr h
end
/-- facts about tracked objects: from one heap to a later one, on demand -/
local macro_rules | `(tactic| walk_at "hp") => `(tactic| first
  | assumption
  | (refine SqT.kp (by assumption) ?_; walk_at "hp")
  | (refine SqT.md (by assumption) ?_; walk_at "hp")
  | (refine SqL.kp (by assumption) ?_; walk_at "hp")
  | (refine Kp.at (by assumption) ?_; walk_at "hp")
  | (refine Md.tup (by assumption) ?_; walk_at "hp")
  | (refine Md.ins (by assumption) ?_; walk_at "hp")
  | (refine Md.frz (by assumption) ?_; walk_at "hp")
  | (refine Md.lst (by assumption) ?_ (by first | assumption | (apply Ne.symm; assumption)); walk_at "hp")
  | (refine SqT.of ?_; walk_at "hp")
  | (refine SqL.of ?_; walk_at "hp"))
example {K : PySem.W.Frag} {H H1 H2 : Hp} {a p : Addr} (k : Kp H H1) (m : Md p H1 H2) (h : SqT K H a [.int 1]) : SqT K H2 a [.int 1] := by walk_at "hp"
example {K : PySem.W.Frag} {H H1 H2 : Hp} {a p : Addr} (k : Kp H H1) (m : Md p H1 H2) (h : H a = some (.tup [.int 1])) : ∃ xs, SqT K H2 a xs := by
  refine ⟨?_, ?h⟩
  case h => walk_at "hp"
end G
namespace G
open PySem PySem.Spec PyProof.Rows L2
/-! ### defs of the text: where they stand, the head's facts as Bools -/
/-- the def object at an address -/
def fdOf (K : PySem.W.Frag) (a : Addr) : FuncData := match K.lookup a with
  | some ⟨_, _, .func fd, _⟩ => fd
  | _ => PySem.W.fnOf Str.empty Str.empty { posonlyargs := [], args := [], vararg := none, kwonlyargs := [], kw_defaults := [], kwarg := none, defaults := [] } [] { kind := .function, names := [], isGenerator := false, isCoroutine := false } .none .none .none .none none .none .none
abbrev ExB : Type := PySem.W.Frag → Bool
def obsX (ex : List ExB) (fn : List He5.DefA) (K : PySem.W.Frag) : He.AlD := ((ex.all fun f => f K) && fn.all fun d => d.ok K, fn.map fun d => He5.fnA K (d.at_ K))
def SaysX (ex : List ExB) (fn : List He5.DefA) (K : PySem.W.Frag) : Prop := obsX ex fn K = He5.valA fn
def obsXG (n : Nat) (ex : List ExB) (fn : List He5.DefA) (g : Addr → Option Obj) : He.AlD := obsX ex fn (He.frG g (He5.asA g n))
def hookX (n : Nat) (ex : List ExB) (fn : List He5.DefA) : PySem.W.Hook where
  α := He.AlD
  obs := fun s => obsXG n ex fn s.heap.get?
  val := fun _ => He5.valA fn
  says := fun _ h => ∃ K : PySem.W.Frag, K.In h ∧ SaysX ex fn K
  of := fun _ _ e => ⟨_, He.frG_in, e⟩
  keeps := fun _ _ _ ⟨K, hK, c⟩ k => ⟨K, PySem.W.Frag.In.keeps hK k, c⟩
theorem obsXG_eq {n : Nat} {ex : List ExB} {fn : List He5.DefA} {g : Addr → Option Obj} {s : Shared} (h : ∀ a, g a = s.heap.get? a) : obsXG n ex fn g = (hookX n ex fn).obs s := by
  have e : g = s.heap.get? := funext h
  rw [e] <;> rfl
/-- what a claim's text knows of the written part: its Bools, its defs, the module's names -/
structure Txt (ex : List ExB) (fn : List He5.DefA) (K : PySem.W.Frag) (mg : Str → Option Value) : Prop where
  says : SaysX ex fn K
  glo : ∀ x a, PySem.W.nsIn K mainGlobals x = some (some a) → mg x = some a
  fre : ∀ x, PySem.W.nsIn K mainGlobals x = some none → mg x = none
section
variable {ex : List ExB} {fn : List He5.DefA} {K : PySem.W.Frag} {mg : Str → Option Value}
theorem Txt.mk' {h : Heap} (X : K.In h) (G : h.Ns mainGlobals mg) (c : SaysX ex fn K) : Txt ex fn K mg := ⟨c, fun _ _ e => PySem.W.mg_of X G e, fun _ e => PySem.W.mg_none_of X G e⟩
theorem Txt.fact (T : Txt ex fn K mg) (i : Nat) {f : ExB} (h : ex[i]? = some f := by rfl) : f K = true := by
  have c1 := (He.ba (show ((ex.all fun f => f K) && fn.all fun d => d.ok K) = true from congrArg (fun z : He.AlD => z.1) T.says)).1
  exact List.all_eq_true.mp c1 f (List.mem_of_getElem? h)
theorem Txt.def_ (T : Txt ex fn K mg) (i : Nat) {d : He5.DefA} (h : fn[i]? = some d := by rfl) : L2.FunD K d.name d.qual d.params d.body d.scope (d.dvs K) (d.kws K) (d.at_ K) (fdOf K (d.at_ K)) := by
  have c2 := (He.ba (show ((ex.all fun f => f K) && fn.all fun d => d.ok K) = true from congrArg (fun z : He.AlD => z.1) T.says)).2
  have e : fn.map (fun d => He5.fnA K (d.at_ K)) = fn.map He5.DefA.val := congrArg (fun z : He.AlD => z.2) T.says
  have e2 : (fn.map fun d => He5.fnA K (d.at_ K))[i]? = (fn.map He5.DefA.val)[i]? := by rw [e]
  rw [List.getElem?_map, List.getElem?_map, h] at e2
  obtain ⟨fd, F⟩ := He5.DefA.funD (Option.some.inj e2) (List.all_eq_true.mp c2 d (List.mem_of_getElem? h))
  obtain ⟨oc, od, dV, kV, doc, pm, an, cdv, ct, osl, e3, lk, r⟩ := F.ex
  have e4 : fdOf K (d.at_ K) = fd := by
    unfold fdOf
    rw [lk]
  rw [e4]
  exact F
/-- a global name's object -/
def gloB (x : Str) : ExB := fun K => He.eqO (PySem.W.nsIn K mainGlobals x) (some (some (.ref (He.ga K x))))
def freB (x : Str) : ExB := fun K => He.eqO (PySem.W.nsIn K mainGlobals x) (some none)
theorem Txt.gl (T : Txt ex fn K mg) (i : Nat) (x : Str) (h : ex[i]? = some (gloB x) := by rfl) : mg x = some (.ref (He.ga K x)) := T.glo x _ (He.eqO_ok (T.fact i h))
theorem Txt.fr (T : Txt ex fn K mg) (i : Nat) (x : Str) (h : ex[i]? = some (freB x) := by rfl) : mg x = none := T.fre x (He.eqO_ok (T.fact i h))
/-- an own class: attributes, isinstance, its making -/
def clsB (x : Str) : ExB := fun K => (He.Fa.cls x).ok K
def noatB (x f : Str) : ExB := fun K => (He.Fa.noat x f).ok K
def methB (x m : Str) : ExB := fun K => (He.Fa.meth x m).ok K
def mkrB (x : Str) : ExB := fun K => (He.Fa.mkr x).ok K
/-- what isinstance asks of instances of the class x -/
def isiB (x : Str) : ExB := fun K => He.eqO (PySem.W.findIn K (.ref (He.ga K x)) "__class__") (some (some (.builtin "object.__class__"))) && (He.eqO (PySem.W.specialIn K (.builtin "object.__class__") "__get__") (some (some (.builtin "getset_descriptor.__get__"))) &&
  (decide (PySem.W.takesIn K (.builtin "object.__class__") = some true) && decide (PySem.W.mroIn K (He.ga K x) (.type "object") = some true)))
structure IsiC (K : PySem.W.Frag) (C : Addr) : Prop where
  ha : PySem.W.findIn K (.ref C) "__class__" = some (some (.builtin "object.__class__"))
  hn : PySem.W.specialIn K (.builtin "object.__class__") "__get__" = some (some (.builtin "getset_descriptor.__get__"))
  ht : PySem.W.takesIn K (.builtin "object.__class__") = some true
  hm : PySem.W.mroIn K C (.type "object") = some true
theorem isiB_ok {x : Str} (h : isiB x K = true) : IsiC K (He.ga K x) := by
  obtain ⟨h1, h⟩ := He.ba h
  obtain ⟨h2, h⟩ := He.ba h
  obtain ⟨h3, h4⟩ := He.ba h
  exact ⟨He.eqO_ok h1, He.eqO_ok h2, of_decide_eq_true h3, of_decide_eq_true h4⟩
/-- isinstance(a thing of type t, the class x) is b -/
def kitB (t : PySem.W.Frag → Value) (x : Str) (b : Bool) : ExB := fun K => decide (PySem.W.kitOne K (t K) (.ref (He.ga K x)) = some b)
theorem kitB_ok {t : PySem.W.Frag → Value} {x : Str} {b : Bool} (h : kitB t x b K = true) : PySem.W.kitOne K (t K) (.ref (He.ga K x)) = some b := of_decide_eq_true h
/-- .. with a built-in class -/
def kitTB (t : PySem.W.Frag → Value) (x : String) (b : Bool) : ExB := fun K => decide (PySem.W.kitOne K (t K) (.type x) = some b)
theorem kitTB_ok {t : PySem.W.Frag → Value} {x : String} {b : Bool} (h : kitTB t x b K = true) : PySem.W.kitOne K (t K) (.type x) = some b := of_decide_eq_true h
/-- the class x is read as classes are -/
def rdB (x : Str) : ExB := fun K => PySem.W.readsIn K (He.ga K x) (.type "type") && He.eqO (PySem.W.specialIn K (.ref (He.ga K x)) "__getattribute__") (some (some (.builtin "type.__getattribute__")))
theorem rdB_ok {x : Str} (h : rdB x K = true) : ClX.CRead K (He.ga K x) (.type "type") := ⟨(He.ba h).1, He.eqO_ok (He.ba h).2⟩
/-- a static method -/
def smA (x m : Str) : PySem.W.Frag → Addr := fun K => He5.wf K (He.ga K x) "staticmethod" m
def smB (x m : Str) : ExB := fun K => He5.wrapB K (He.ga K x) "staticmethod" "staticmethod.__get__" m && PySem.W.keepIn K (.ref (smA x m K))
structure SMet (K : PySem.W.Frag) (C : Addr) (mc : Value) (m : Str) (g : Addr) : Prop where
  ex : ∃ (p : Addr) (rest : List Value), PySem.W.findCls K (.ref C) mc m = some (.get (.builtin "staticmethod.__get__") (.ref p) .none (.ref C)) ∧ PySem.W.recIn K p "staticmethod" = some (.ref g :: rest)
  kp : PySem.W.keepIn K (.ref g) = true
theorem smB_ok {x m : Str} (h : smB x m K = true) : SMet K (He.ga K x) (.type "type") m (smA x m K) := by
  obtain ⟨h1, h2⟩ := He.ba h
  obtain ⟨h3, rest, h4⟩ := He5.wrapB_ok h1
  exact ⟨⟨_, rest, h3, h4⟩, h2⟩
/-- a def of the class x for an operator; no class t stands before it -/
def ownB (x m : Str) : ExB := fun K => He.eqO (PySem.W.findIn K (.ref (He.ga K x)) m) (some (some (.ref (He.ma K (He.ga K x) m)))) && PySem.W.isFn K (.ref (He.ma K (He.ga K x) m))
structure OwnM (K : PySem.W.Frag) (C : Addr) (m : Str) (g : Addr) : Prop where
  at_ : PySem.W.findIn K (.ref C) m = some (some (.ref g))
  fn : PySem.W.isFn K (.ref g) = true
theorem ownB_ok {x m : Str} (h : ownB x m K = true) : OwnM K (He.ga K x) m (He.ma K (He.ga K x) m) := ⟨He.eqO_ok (He.ba h).1, (He.ba h).2⟩
def nfB (x : Str) (t : PySem.W.Frag → Value) : ExB := fun K => PySem.W.notFirst K (He.ga K x) (t K)
/-- a property -/
def prA (x m : Str) : PySem.W.Frag → Addr := fun K => He5.wf K (He.ga K x) "property" m
def prB (x m : Str) : ExB := fun K => He.eqO (PySem.W.findIn K (.ref (He.ga K x)) m) (some (some (.ref (He.ma K (He.ga K x) m)))) && (He.eqO (PySem.W.specialIn K (.ref (He.ma K (He.ga K x) m)) "__get__") (some (some (.builtin "property.__get__"))) &&
  (decide (PySem.W.takesIn K (.ref (He.ma K (He.ga K x) m)) = some true) && (match PySem.W.recIn K (He.ma K (He.ga K x) m) "property" with
    | some (.ref _ :: _) => true
    | _ => false)))
theorem prB_ok {x m : Str} (h : prB x m K = true) : L2.PropOf K (He.ga K x) m (He.ma K (He.ga K x) m) (prA x m K) := by
  obtain ⟨h1, h⟩ := He.ba h
  obtain ⟨h2, h⟩ := He.ba h
  obtain ⟨h3, h4⟩ := He.ba h
  refine ⟨He.eqO_ok h1, He.eqO_ok h2, of_decide_eq_true h3, ?_⟩
  unfold prA He5.wf
  split at h4
  · rename_i f r e
    exact ⟨r, by rw [e]⟩
  · cases h4
end
section
variable {P : Program} {w : World} {K : PySem.W.Frag} {mg : Str → Option Value} {base : Heap} {x qual : Str} {st : Stmt} {dvs : List V} {kws : List (Str × V)} {f : Addr} {fd : FuncData}
/-- room for calls k deep, and no text of a container is being made -/
structure RoomG (k : Nat) (A : Around) : Prop where
  rm : Room k A
  gs : A.guards = some []
theorem RoomG.mono {j k : Nat} {A : Around} (r : RoomG k A) (h : j ≤ k) : RoomG j A := ⟨r.rm.mono h, r.gs⟩
theorem RoomG.deeper {k : Nat} {A : Around} (r : RoomG (k + 1) A) (env : Env) : RoomG k (A.deeper env) := ⟨r.rm.deeper env, r.gs⟩
theorem RoomG.units {k : Nat} {A : Around} (r : RoomG k A) : A.units + 64 < cLine := r.rm.units
theorem RoomG.units0 {k : Nat} {A : Around} (r : RoomG k A) : A.units < cLine := r.rm.units0
theorem RoomG.in1 {k : Nat} {A : Around} (r : RoomG (k + 1) A) : RoomG k A.in1 := ⟨r.rm.in1, r.gs⟩
theorem RoomG.make {k : Nat} {A : Around} (r : RoomG (k + 1) A) (C : Addr) (us : List Value) (kw : List (Str × Value)) : RoomG k (A.under (.builtin "type.__call__" ⟨.ref C :: us, kw⟩)) := ⟨r.rm.make C us kw, by
  have e : (A.under (.builtin "type.__call__" ⟨.ref C :: us, kw⟩)).guards = A.guards := by
    first | rfl | (cases q : A.guards <;> simp [Around.under, Code.guards, Code.isGuard, pushGuards, guardIds, q])
  rw [e]
  exact r.gs⟩
/-- what a def promises to every call that has such room -/
structure FnG (P : Program) (w : World) (K : PySem.W.Frag) (mg : Str → Option Value) (base : Heap) (CX : CXT) (k : Nat) (f : Addr) (fd : FuncData) (ps : List Str) (sp : Sp) : Prop where
  len : ∀ {vs : List V} {H : Hp} {Q : VK} {E : XK}, sp vs H Q E → vs.length = ps.length
  run : ∀ {A : Around} {outer : List Env} {s : Shared} {H : Hp} {args : Args} {us : List Value} {vs : List V} {Q : VK} {E : XK},
    RoomG k A → Env0 P w K mg base A outer s H → BindsTo s fd args (ps.zip us) → Vals vs us → sp vs H Q E → codeAny (model P w) A (.call (.ref f) args) (CR CX outer P w H s Q E) s
theorem FnG.mono {P : Program} {w : World} {K : PySem.W.Frag} {mg : Str → Option Value} {base : Heap} {CX : CXT} {j k : Nat} {f : Addr} {fd : FuncData} {ps : List Str} {sp : Sp}
    (F : FnG P w K mg base CX j f fd ps sp) (h : j ≤ k) : FnG P w K mg base CX k f fd ps sp := ⟨F.len, fun r => F.run (r.mono h)⟩
/-- a def's promise, by its body; what the body may let out is told by CX -/
theorem okX_of {CX : CXT} {N ps : List Str} {k : Nat} {sp : Sp} (F : L2.FunD K x qual (defArgs st) (defBody st) (defScope st) dvs kws f fd) (S : FnScope N ps (defScope st)) (len : ∀ vs H Q E, sp vs H Q E → vs.length = ps.length)
    (hbody : ∀ (cdv : Value) (A : Around) (outer : List Env) (s : Shared) (H : Hp) (vs : List V) (Q : VK) (E : XK), RoomG k (A.deeper (envOfC qual (defScope st) s.heap.objs.size f cdv)) → sp vs H Q E →
      ∃ t, PSs (cxOf CX P w K mg base N qual (defScope st) f cdv A outer s H E) (defBody st) t ∧ t { nx := fun _ H' => Q .non H', rt := Q } (start N vs) H) : FnG P w K mg base CX (k + 1) f fd ps sp := by
  obtain ⟨oc, od, dV, kV, doc, pm, an, cdv, ct, osl, rfl, lk, hcd, _, _⟩ := F.ex
  exact ⟨fun h => len _ _ _ _ h, fun {A outer s H args us vs Q E} r e0 hb rv h => LamX.run_ofS lk hcd S r.rm e0 hb rv (len _ _ _ _ h) fun _ => hbody cdv A outer s H vs Q E (r.deeper _) h⟩
/-- THE RULE for a def that lets no exception out -/
theorem ok_of {N ps : List Str} {k : Nat} {sp : Sp} (F : L2.FunD K x qual (defArgs st) (defBody st) (defScope st) dvs kws f fd) (S : FnScope N ps (defScope st)) (len : ∀ vs H Q E, sp vs H Q E → vs.length = ps.length)
    (hbody : ∀ (cdv : Value) (A : Around) (outer : List Env) (s : Shared) (H : Hp) (vs : List V) (Q : VK) (E : XK), RoomG k (A.deeper (envOfC qual (defScope st) s.heap.objs.size f cdv)) → sp vs H Q E →
      ∃ t, PSs (cxOf CX0 P w K mg base N qual (defScope st) f cdv A outer s H E).nox (defBody st) t ∧ t { nx := fun _ H' => Q .non H', rt := Q } (start N vs) H) : FnG P w K mg base CX0 (k + 1) f fd ps sp :=
  okX_of F S len fun cdv A outer s H vs Q E hr hsp => let ⟨t, h, q⟩ := hbody cdv A outer s H vs Q E hr hsp; ⟨t, h.nox, q⟩
end
/-! ### calls -/
section
variable {X : Cx} {CX : CXT} {k : Nat} {f C : Addr} {fd : FuncData} {ps : List Str} {sp : Sp} {dvs : List V} {ds : List Value} {E : XK} {x m : Str} {p pos apos : Pos} {e o : Expr} {es : List Expr} {ta : TE} {t : TA} {pins : List (Addr × Obj)} {σ : L2.St} {H : Hp} {s : Shared} {Q : VK} {us : List Value} {vs : List V} {pl : Sem Bool}
/-- a call's end, as its caller X sees it -/
def ER (X : Cx) (pins : List (Addr × Obj)) (σ : L2.St) (Q : VK) : Result → Shared → Prop
  | .ok (.ret u), s' => EP X pins σ Q u s'
  | .ok _, _ => False
  | .error e, s' => X.xe e s'
theorem er_of {r : Result} {s' : Shared} (hx : Passes CX X E) (I : Inv X pins σ H s) (hq : CR CX X.stack X.prog X.w H s Q E r s') : ER X pins σ Q r s' := by
  match r, hq with
  | .error e, hq => exact hx pins σ H s e s' I hq
  | .ok (.ret u), hq => exact I.after hq
  | .ok .next, hq => exact hq
  | .ok .brk, hq => exact hq
  | .ok .cont, hq => exact hq
theorem wp_er {A' : Around} {us : List Value} {kw : List (Str × Value)} (h : codeAny (model X.prog X.w) A' (.call (.ref f) ⟨us, kw⟩) (ER X pins σ Q) s) : wpAny (model X.prog X.w) A' (call (.ref f) us kw) (EP X pins σ Q) X.xe s :=
  wpAny_call (codeAny_mono h fun r s' hq => by
    match r, hq with
    | .error _, hq => exact hq
    | .ok (.ret _), hq => exact hq)
theorem run_at {A' : Around} {args : Args} {ws : List Value} (F : FnG X.prog X.w X.K X.mg X.base CX k f fd ps sp) (hr : RoomG k A') (e0 : Env0 X.prog X.w X.K X.mg X.base A' X.stack s H) (hx : Passes CX X E) (I : Inv X pins σ H s) (hb : BindsTo s fd args (ps.zip ws)) (r : Vals vs ws) (h : sp vs H Q E) :
    codeAny (model X.prog X.w) A' (.call (.ref f) args) (ER X pins σ Q) s := codeAny_mono (F.run hr e0 hb r h) fun _ _ hq => er_of hx I hq
theorem len_of (F : FnG X.prog X.w X.K X.mg X.base CX k f fd ps sp) (hd : Vals dvs ds) (r : Vals vs us) (h : sp (vs ++ dvs) H Q E) : (us ++ ds).length = ps.length := by rw [← (r.append hd).length]; exact F.len h
theorem run_fnG (F : FnG X.prog X.w X.K X.mg X.base CX k f fd ps sp) (hr : RoomG k X.A) (hb : Binds X.K fd ps ds) (hd : Vals dvs ds) (hx : Passes CX X E) (I : Inv X pins σ H s) (r : Vals vs us) (h : sp (vs ++ dvs) H Q E) :
    wpAny (model X.prog X.w) X.A (call (.ref f) us) (EP X pins σ Q) X.xe s := wp_er (run_at F hr I.env0 hx I (hb s us I.kIn (len_of F hd r h)) (r.append hd) h)
/-- x(e, ..), x(): a def of the module -/
theorem pe_callG (F : FnG X.prog X.w X.K X.mg X.base CX k f fd ps sp) (hr : RoomG k X.A) (hg : Gl X x) (hm : X.mg x = some (.ref f)) (hk : PySem.W.keepIn X.K (.ref f) = true) (hb : Binds X.K fd ps ds) (hd : Vals dvs ds) (hx : Passes CX X E) (ha : PA X (e :: es) t)
    (hdb : (x == ("__debug__" : Str)) = false := by decide) (he : starEach (e :: es) X.env = (false, eval e X.env) :: starEach es X.env := by rfl) (hpl : (backTo pos (starEach es X.env)).any (·.1) = false := by rfl) : PE X (.Call (.Name x p) (e :: es) [] pos) (tCall sp dvs E t) :=
  ⟨fun pins s σ H _ I h => wpAny_Call_Name_kw (ld_glob I hg hm (PySem.W.callWith_K (h₀ := X.base) I.ok.mod.kin hk (thn (ha.run pos pins s σ H _ I h) fun _ _ ⟨_, _, J, r, q⟩ => ⟨J.kIn, run_fnG F hr hb hd hx J r q⟩) he hpl) hdb)⟩
theorem pe_callG0 (F : FnG X.prog X.w X.K X.mg X.base CX k f fd ps sp) (hr : RoomG k X.A) (hg : Gl X x) (hm : X.mg x = some (.ref f)) (hk : PySem.W.keepIn X.K (.ref f) = true) (hb : Binds X.K fd ps ds) (hd : Vals dvs ds) (hx : Passes CX X E)
    (hdb : (x == ("__debug__" : Str)) = false := by decide) : PE X (.Call (.Name x p) [] [] pos) (tCall sp dvs E tNil) :=
  ⟨fun _ _ _ _ _ I h => wpAny_Call_Name_kw (ld_glob I hg hm (PySem.W.callWith_K0 I.kIn hk (run_fnG (us := []) F hr hb hd hx I .nil h)) hdb)⟩
/-- the text of o.m(..) as it is run -/
def MethT (X : Cx) (o : Expr) (m : Str) (apos pos : Pos) (es : List Expr) (kws : List Keyword) (pl : Sem Bool) : Prop :=
  eval (.Call (.Attribute o m apos) es kws pos) X.env = (do
    let u ← eval o X.env
    standAt apos.atName
    let (g, first) ← holding [u] (getMethod u m pl)
    callWith pos g first (backTo pos (starEach es X.env)) (backToKw pos (keywordEach kws X.env)))
theorem pe_methG (he : PE X o ta) (c : Cls X.K C) (hm : Meth X.K C m f) (F : FnG X.prog X.w X.K X.mg X.base CX k f fd ps sp) (hr : RoomG k X.A) (hb : Binds X.K fd ps ds) (hd : Vals dvs ds) (hx : Passes CX X E) (ha : PA X (e :: es) t)
    (hst : starEach (e :: es) X.env = (false, eval e X.env) :: starEach es X.env := by rfl) (hpl : (backTo pos (starEach es X.env)).any (·.1) = false := by rfl) (ht : MethT X o m apos pos (e :: es) [] pl := by rfl) :
    PE X (.Call (.Attribute o m apos) (e :: es) [] pos) (tMeth C m sp dvs E ta t) :=
  ⟨fun pins s σ H _ I h => PySem.W.methodCall_KW (pl := pl) (thn (he.run pins s σ H _ I h) fun u s1 ⟨x, H1, J, rx, a, dx, fs, ex, ea, l, q⟩ => by
    subst ex
    cases (show u = Value.ref a from rx)
    exact getmeth_ok J ea c hm l (PySem.W.callWith_K (first := [.ref a]) (h₀ := X.base) J.ok.mod.kin hm.kp (thn (ha.run pos pins s1 σ H1 _ J q) fun us _ ⟨vs, _, J2, r, q2⟩ => ⟨J2.kIn, run_fnG (us := .ref a :: us) (vs := .ref a :: vs) F hr hb hd hx J2 (.cons rfl r) q2⟩) hst hpl)) ht⟩
theorem pe_methG0 (he : PE X o ta) (c : Cls X.K C) (hm : Meth X.K C m f) (F : FnG X.prog X.w X.K X.mg X.base CX k f fd ps sp) (hr : RoomG k X.A) (hb : Binds X.K fd ps ds) (hd : Vals dvs ds) (hx : Passes CX X E)
    (ht : MethT X o m apos pos [] [] pl := by rfl) : PE X (.Call (.Attribute o m apos) [] [] pos) (tMeth C m sp dvs E ta tNil) :=
  ⟨fun pins s σ H _ I h => PySem.W.methodCall_KW (pl := pl) (thn (he.run pins s σ H _ I h) fun u s1 ⟨x, H1, J, rx, a, dx, fs, ex, ea, l, q⟩ => by
    subst ex
    cases (show u = Value.ref a from rx)
    exact getmeth_ok J ea c hm l (PySem.W.callWith_K0 (first := [.ref a]) J.kIn hm.kp (run_fnG (us := [.ref a]) (vs := [.ref a]) F hr hb hd hx J (.cons rfl .nil) q))) ht⟩
/-- C(..), C an own class with an __init__ -/
theorem run_makeG (M : Mk X.K C f) (F : FnG X.prog X.w X.K X.mg X.base CX k f fd ps sp) (hr : RoomG (k + 1) X.A) (hb : Binds X.K fd ps ds) (hd : Vals dvs ds) (hx : Passes CX X E) (I : Inv X pins σ H s) (r : Vals vs us)
    (h : ∀ a dx, H a = none → H dx = none → dx ≠ a → sp (.ref a :: (vs ++ dvs)) (upd (upd H dx (.own a)) a (.ins C dx [])) (fun v H2 => v = .non ∧ Q (.ref a) H2) E) : wpAny (model X.prog X.w) X.A (call (.ref C) us) (EP X pins σ Q) X.xe s := by
  have hq := h (s.heap.objs.size + 1) s.heap.objs.size (I.hok.fresh (Nat.le_add_right _ 1)) (I.hok.fresh (Nat.le_refl _)) (Nat.ne_of_lt (Nat.lt_add_one _))
  have J := Inv.made (C := C) I
  have rv : Vals (V.ref (s.heap.objs.size + 1) :: vs) (Value.ref (s.heap.objs.size + 1) :: us) := .cons rfl r
  have run := run_at F (hr.make C us []) (J.env0.make C us []) hx J (hb _ _ J.kIn (len_of F hd rv hq)) (rv.append hd) hq
  refine wpAny_call (make_map (f := f) I.kIn M.makes M.init (beq_iff_eq.mp M.fn) (codeAny_mono run fun r s' z => ?_))
  match r, z with
  | .error _, z => exact z
  | .ok (.ret u), ⟨v, H', J', rn, ev, q⟩ =>
    subst ev
    exact ⟨rn, V.ref (s.heap.objs.size + 1), H', J', rfl, q⟩
theorem pe_makeG (M : Mk X.K C f) (F : FnG X.prog X.w X.K X.mg X.base CX k f fd ps sp) (hr : RoomG (k + 1) X.A) (hg : Gl X x) (hm : X.mg x = some (.ref C)) (hb : Binds X.K fd ps ds) (hd : Vals dvs ds) (hx : Passes CX X E) (ha : PA X (e :: es) t)
    (hdb : (x == ("__debug__" : Str)) = false := by decide) (he : starEach (e :: es) X.env = (false, eval e X.env) :: starEach es X.env := by rfl) (hpl : (backTo pos (starEach es X.env)).any (·.1) = false := by rfl) : PE X (.Call (.Name x p) (e :: es) [] pos) (tMake C sp dvs E t) :=
  ⟨fun pins s σ H _ I h => wpAny_Call_Name_kw (ld_glob I hg hm (PySem.W.callWith_K (h₀ := X.base) I.ok.mod.kin M.kp (thn (ha.run pos pins s σ H _ I h) fun _ _ ⟨_, _, J, r, q⟩ => ⟨J.kIn, run_makeG M F hr hb hd hx J r q⟩) he hpl) hdb)⟩
end
/-! ### calls of static methods; methods with keywords -/
/-- C.m(..), C an own class, m a static method -/
def tSM (C : Addr) (sp : Sp) (dvs : List V) (E : XK) (ta : TE) (t : TA) : TE := fun σ H Q => ta σ H fun x H1 => x = .ref C ∧ t σ H1 fun vs H2 => sp (vs ++ dvs) H2 Q E
/-- o.m(k = v, ..), o an instance of the class at C -/
def tMethK (C : Addr) (m : Str) (sp : Sp) (gV : List V → List V) (E : XK) (ta : TE) (tk : TA) : TE := fun σ H Q => ta σ H fun x H1 => ∃ a dx fs, x = .ref a ∧ H1 a = some (.ins C dx fs) ∧ fs.lookup m = none ∧ tk σ H1 fun zs H2 => sp (x :: gV zs) H2 Q E
/-- the keywords alone, in the order g -/
structure KB0 (K : PySem.W.Frag) (fd : FuncData) (n : Nat) (ps ks : List Str) (g : List Value → List Value) (gV : List V → List V) : Prop where
  to : ∀ (s : Shared) (us ws : List Value), K.In s.heap → us.length = n → (us ++ g ws).length = ps.length → BindsTo s fd ⟨us, ks.zip ws⟩ (ps.zip (us ++ g ws))
  rel : ∀ {zs : List V} {ws : List Value}, Vals zs ws → Vals (gV zs) (g ws)
section
variable {X : Cx} {CX : CXT} {k : Nat} {C p g : Addr} {mc : Value} {sp : Sp} {E : XK} {o e : Expr} {es : List Expr} {f m : Str} {pos apos : Pos} {ta : TE} {t tk : TA} {pl : Sem Bool} {fd : FuncData} {ps ks : List Str} {dvs : List V} {ds : List Value} {kws : List Keyword}
theorem pe_smeth (he : PE X o ta) (r : ClX.CRead X.K C mc) (c : SMet X.K C mc m g) (F : FnG X.prog X.w X.K X.mg X.base CX k g fd ps sp) (hr : RoomG k X.A) (hb : Binds X.K fd ps ds) (hd : Vals dvs ds) (hx : Passes CX X E) (ha : PA X (e :: es) t)
    (hst : starEach (e :: es) X.env = (false, eval e X.env) :: starEach es X.env := by rfl) (hpl : (backTo pos (starEach es X.env)).any (·.1) = false := by rfl)
    (ht : eval (.Call (.Attribute o m apos) (e :: es) [] pos) X.env = (do
      let ov ← eval o X.env
      standAt apos.atName
      let (f, first) ← holding [ov] (getMethod ov m pl)
      callWith pos f first (backTo pos (starEach (e :: es) X.env)) (backToKw pos (keywordEach [] X.env))) := by rfl) :
    PE X (.Call (.Attribute o m apos) (e :: es) [] pos) (tSM C sp dvs E ta t) := by
  refine ⟨fun pins s σ H Q I h => ?_⟩
  refine PySem.W.methodCall_KW (pl := pl) (thn (he.run pins s σ H _ I h) fun u s1 ⟨x, H1, I1, rx, ex, q⟩ => ?_) ht
  subst ex
  obtain rfl : u = Value.ref C := rx
  obtain ⟨p, rest, h1, h2⟩ := c.ex
  refine PySem.W.method_cls I1.kIn r.ga (PySem.W.cls_bind I1.kIn r.rd h1 (wpAny_call (PySem.W.sm_get (s := { s1 with toks := s1.toks + 1 }) I1.kIn h2 (PySem.W.handed_on rfl ?_))))
  have I2 := I1.tok (s1.toks + 1)
  refine PySem.W.callWith_K (first := []) (h₀ := X.base) I2.ok.mod.kin c.kp (thn (ha.run pos pins _ σ H1 _ I2 q) fun us s2 ⟨vs, H2, I3, rv, q2⟩ => ⟨I3.kIn, ?_⟩) hst hpl
  exact run_fnG F hr hb hd hx I3 rv q2
theorem run_kb0 {pins : List (Addr × Obj)} {σ : L2.St} {H : Hp} {s : Shared} {Q : VK} {us ws : List Value} {vs zs : List V} {gg : List Value → List Value} {gV : List V → List V} {n : Nat} (F : FnG X.prog X.w X.K X.mg X.base CX k g fd ps sp) (hr : RoomG k X.A) (hb : KB0 X.K fd n ps ks gg gV) (hx : Passes CX X E)
    (I : Inv X pins σ H s) (hn : us.length = n) (r : Vals vs us) (rz : Vals zs ws) (h : sp (vs ++ gV zs) H Q E) : wpAny (model X.prog X.w) X.A (call (.ref g) us (ks.zip ws)) (EP X pins σ Q) X.xe s :=
  have l : (us ++ gg ws).length = ps.length := by rw [← (r.append (hb.rel rz)).length]; exact F.len h
  wp_er (run_at F hr I.env0 hx I (hb.to s us ws I.kIn hn l) (r.append (hb.rel rz)) h)
theorem pe_methK {gg : List Value → List Value} {gV : List V → List V} (he : PE X o ta) (c : Cls X.K C) (hm : Meth X.K C m g) (F : FnG X.prog X.w X.K X.mg X.base CX k g fd ps sp) (hr : RoomG k X.A) (hb : KB0 X.K fd 1 ps ks gg gV) (hx : Passes CX X E) (hkw : PK X kws tk)
    (hall : (backToKw pos (keywordEach kws X.env)).all (·.1.isSome) = true := by rfl) (hks : (backToKw pos (keywordEach kws X.env)).filterMap (·.1) = ks := by rfl)
    (hpl : ((backTo pos (starEach [] X.env)).any (·.1) || (backToKw pos (keywordEach kws X.env)).any (·.1.isNone)) = false := by rfl)
    (ht : eval (.Call (.Attribute o m apos) [] kws pos) X.env = (do
      let ov ← eval o X.env
      standAt apos.atName
      let (f, first) ← holding [ov] (getMethod ov m pl)
      callWith pos f first (backTo pos (starEach [] X.env)) (backToKw pos (keywordEach kws X.env))) := by rfl) :
    PE X (.Call (.Attribute o m apos) [] kws pos) (tMethK C m sp gV E ta tk) := by
  refine ⟨fun pins s σ H Q I h => ?_⟩
  refine PySem.W.methodCall_KW (pl := pl) (thn (he.run pins s σ H _ I h) fun u s1 ⟨x, H1, I1, rx, a, dx, fs, ex, ea, l, q⟩ => ?_) ht
  subst ex
  obtain rfl : u = Value.ref a := rx
  refine getmeth_ok I1 ea c hm l ?_
  refine PySem.W.callWith_KW0 (first := [.ref a]) (h₀ := X.base) I1.ok.mod.kin hm.kp hall (thn (hkw.run pos pins s1 σ H1 _ I1 q) fun ws s2 ⟨zs, H2, I2, rz, q2⟩ => ⟨I2.kIn, ?_⟩) hpl
  rw [hks]
  exact run_kb0 (us := [.ref a]) (vs := [.ref a]) F hr hb hx I2 rfl (.cons rfl .nil) rz q2
end

/-! ### operators that an own class defines -/
section
variable {X : Cx} {CX : CXT} {k : Nat} {C g : Addr} {sp : Sp} {E : XK} {fd : FuncData} {ps : List Str}
/-- x op y (a comparison), x an instance of the class at C whose def for op is at g -/
def rCmpO (K : PySem.W.Frag) (C : Addr) (sp : Sp) (E : XK) : R2 := fun x y H Q => ∃ a dx fs t, x = .ref a ∧ H a = some (.ins C dx fs) ∧ TyX K H y t ∧ PySem.W.notFirst K C t = true ∧ sp [x, y] H Q E
theorem op_cmpO {op : CmpOp} (hop : ∀ a b, compareOp op a b = richCompare op a b) (hs : OwnM X.K C (cmpInfo op).2.1 g) (F : FnG X.prog X.w X.K X.mg X.base CX k g fd ps sp) (hr : RoomG k X.A) (hb : Binds X.K fd ps []) (hx : Passes CX X E) :
    OpR X (compareOp op) (rCmpO X.K C sp E) := by
  intro pins s σ H x y v u Q I rx ry h
  obtain ⟨a, dx, fs, t, rfl, ha, ty, hn, q⟩ := h
  cases (show v = Value.ref a from rx)
  obtain ⟨mA, O, _⟩ := ins_get I.hok ha
  obtain ⟨od, J, _⟩ := O.look
  obtain ⟨m, hF⟩ := I.fr
  obtain ⟨Pt, Z, pz, _⟩ := kit_of I ry ty
  rw [hop]
  refine PySem.W.cmp_K (op := op) (tb := t) hr.units0 hF I.ok.mod.kin J (Z.ty _ _ I.kIn pz) hn hs.at_ hs.fn ?_
  refine thn (run_fnG (us := [.ref a, u]) (vs := [.ref a, y]) F hr hb .nil hx I (.cons rfl (.cons ry .nil)) q) fun w s' z => ?_
  obtain ⟨z', H', I', rz, qz⟩ := z
  exact SlX.cmpback rz ⟨z', H', I', rz, qz⟩
/-- v in x, x an instance of the class at C with a __contains__ at g -/
def rInO (C : Addr) (neg : Bool) (sp : Sp) (E : XK) : R2 := fun v x H Q => ∃ a dx fs, x = .ref a ∧ H a = some (.ins C dx fs) ∧ sp [x, v] H (fun z H' => ∃ b, z = .bl b ∧ Q (.bl (if neg then !b else b)) H') E
theorem op_inO (hs : OwnM X.K C "__contains__" g) (F : FnG X.prog X.w X.K X.mg X.base CX k g fd ps sp) (hr : RoomG k X.A) (hb : Binds X.K fd ps []) (hx : Passes CX X E) : OpR X (compareOp .In) (rInO C false sp E) := by
  intro pins s σ H v x u w Q I rv rx h
  obtain ⟨a, dx, fs, rfl, ha, q⟩ := h
  cases (show w = Value.ref a from rx)
  obtain ⟨mA, O, _⟩ := ins_get I.hok ha
  obtain ⟨od, J, _⟩ := O.look
  obtain ⟨m, hF⟩ := I.fr
  refine PySem.W.in_K hF I.ok.mod.kin J hs.at_ hs.fn (thn (run_fnG (us := [.ref a, u]) (vs := [.ref a, v]) F hr hb .nil hx I (.cons rfl (.cons rv .nil)) q) fun r s' z => ?_)
  obtain ⟨z', H', I', rz, b, ez, qz⟩ := z
  subst ez
  cases (show r = Value.bool b from rz)
  exact wpAny_truthy_bool ⟨.bl b, H', I', rfl, qz⟩
theorem op_notInO (hs : OwnM X.K C "__contains__" g) (F : FnG X.prog X.w X.K X.mg X.base CX k g fd ps sp) (hr : RoomG k X.A) (hb : Binds X.K fd ps []) (hx : Passes CX X E) : OpR X (compareOp .NotIn) (rInO C true sp E) := by
  intro pins s σ H v x u w Q I rv rx h
  obtain ⟨a, dx, fs, rfl, ha, q⟩ := h
  cases (show w = Value.ref a from rx)
  obtain ⟨mA, O, _⟩ := ins_get I.hok ha
  obtain ⟨od, J, _⟩ := O.look
  obtain ⟨m, hF⟩ := I.fr
  refine PySem.W.notIn_K hF I.ok.mod.kin J hs.at_ hs.fn (thn (run_fnG (us := [.ref a, u]) (vs := [.ref a, v]) F hr hb .nil hx I (.cons rfl (.cons rv .nil)) q) fun r s' z => ?_)
  obtain ⟨z', H', I', rz, b, ez, qz⟩ := z
  subst ez
  cases (show r = Value.bool b from rz)
  exact wpAny_truthy_bool ⟨.bl (!b), H', I', rfl, qz⟩
end
end G
namespace G
open PySem PySem.Spec PyProof.Rows L2
/-! ### sizes of ints -/
/-- below 2 ^ n in size -/
def Bd (n : Nat) (x : Int) : Prop := x.natAbs < 2 ^ n
theorem Bd.mono {n m : Nat} {x : Int} (h : Bd n x) (l : n ≤ m) : Bd m x := Nat.lt_of_lt_of_le h (Nat.pow_le_pow_right (by decide) l)
theorem Bd.lit (x : Int) : Bd (x.natAbs.log2 + 1) x := Nat.lt_log2_self
theorem Bd.of_le {n : Nat} {x y : Int} (h : Bd n y) (l : x.natAbs ≤ y.natAbs) : Bd n x := Nat.lt_of_le_of_lt l h
theorem Bd.mul {a b : Nat} {x y : Int} (h : Bd a x) (k : Bd b y) : Bd (a + b) (x * y) := wide_lt h k
theorem Bd.add {a b : Nat} {x y : Int} (h : Bd a x) (k : Bd b y) : Bd (a + b + 1) (x + y) := by
  have h1 := Bd.mono h (show a ≤ a + b by omega)
  have h2 := Bd.mono k (show b ≤ a + b by omega)
  unfold Bd at *
  have e : (2 : Nat) ^ (a + b + 1) = 2 ^ (a + b) + 2 ^ (a + b) := by rw [Nat.pow_succ]; omega
  rw [e]
  omega
theorem Bd.neg {a : Nat} {x : Int} (h : Bd a x) : Bd a (-x) := by unfold Bd at *; rw [Int.natAbs_neg]; exact h
theorem Bd.sub {a b : Nat} {x y : Int} (h : Bd a x) (k : Bd b y) : Bd (a + b + 1) (x - y) := by rw [Int.sub_eq_add_neg]; exact h.add k.neg
theorem Bd.of_range {n : Nat} {x y : Int} (h0 : 0 ≤ x) (h1 : x ≤ y) (k : Bd n y) : Bd n x := Bd.of_le k (by omega)
theorem log_of {a : Nat} {x : Int} (h : Bd a x) : x.natAbs.log2 ≤ a := by
  by_cases e : a = 0
  · subst e
    have : x.natAbs = 0 := by unfold Bd at h; omega
    rw [this]; decide
  · exact Nat.le_of_lt (PySem.Flt.log2_lt_of (by omega) h)
theorem mulOk {a b : Nat} {x y : Int} (h : Bd a x) (k : Bd b y) (l : a + b < 1000000) : IntMulOk x y := CMulW.ok (by
  have := log_of h
  have := log_of k
  unfold CMulW
  omega)
theorem mulOkL {x y : Int} (h : -(2 ^ 64) < x ∧ x < 2 ^ 64) : IntMulOk x y := CMul.ok (.inl h)
theorem mulOkR {x y : Int} (h : -(2 ^ 64) < y ∧ y < 2 ^ 64) : IntMulOk x y := CMul.ok (.inr h)

/-! ### general operators -/
def CDivG (_ j : Int) : Prop := j ≠ 0 ∧ j.natAbs.log2 < 9000
def rAddG (K : PySem.W.Frag) : R2 := fun x y H Q => (rI0 fun i j => .int (i + j)) x y H Q ∨ (∃ i j, x = .str i ∧ y = .str j ∧ i.length + j.length ≤ sizeLine ∧ Q (.str (i ++ j)) H) ∨ rCatT K x y H Q ∨ rCat x y H Q
def rSubG : R2 := rI0 fun i j => .int (i - j)
def rMulG : R2 := fun x y H Q => (rI IntMulOk fun i j => .int (i * j)) x y H Q ∨ rRep x y H Q
def rDivG : R2 := rI CDivG fun i j => .int (i.fdiv j)
def rModG : R2 := rI (fun _ j => j ≠ 0) fun i j => .int (i.fmod j)
def rPowG : R2 := rI CPow fun i j => .int (i ^ j.toNat)
def rNegG : V → Hp → VK → Prop := rU fun i => .int (-i)
def rLtG : R2 := rI0 fun i j => .bl (decide (i < j))
def rLeG : R2 := rI0 fun i j => .bl (decide (i ≤ j))
def rGtG : R2 := rI0 fun i j => .bl (decide (j < i))
def rGeG : R2 := rI0 fun i j => .bl (decide (j ≤ i))
def rEqG (K : PySem.W.Frag) : R2 := fun x y H Q => rEq x y H Q ∨ rEqD K x y H Q
def rNeG (K : PySem.W.Frag) : R2 := fun x y H Q => rNe x y H Q ∨ rNeD K x y H Q
def rIsNG : R2 := fun x y H Q => y = .non ∧ Q (.bl (decide (x = .non))) H
def rNotNG : R2 := fun x y H Q => y = .non ∧ Q (.bl (!decide (x = .non))) H
def rAbsG : List V → Hp → VK → Prop := fun xs H Q => ∃ i, xs = [.int i] ∧ Q (.int (if i < 0 then -i else i)) H
def rIntG : List V → Hp → VK → Prop := fun xs H Q => (∃ i, xs = [.int i] ∧ Q (.int i) H) ∨ ∃ k, xs = [.bl k] ∧ Q (.int (if k then 1 else 0)) H
def rBoolG : List V → Hp → VK → Prop := fun xs H Q => (∃ i, xs = [.int i] ∧ Q (.bl (i != 0)) H) ∨ ∃ k, xs = [.bl k] ∧ Q (.bl k) H
def rLenG (K : PySem.W.Frag) : List V → Hp → VK → Prop := fun xs H Q => (∃ p ys, xs = [.ref p] ∧ (SqL K H p ys ∨ SqT K H p ys) ∧ Q (.int ys.length) H) ∨ ∃ z, xs = [.str z] ∧ z.length ≤ sizeLine ∧ Q (.int z.length) H
def rListG (K : PySem.W.Frag) : List V → Hp → VK → Prop := fun xs H Q => ∃ p ys, xs = [.ref p] ∧ (SqL K H p ys ∨ SqT K H p ys) ∧ ∀ l, H l = none → Q (.ref l) (upd H l (.lst ys))
def rIsiG (K : PySem.W.Frag) : List V → Hp → VK → Prop := rIsi K
def rSlG (K : PySem.W.Frag) : V → Option Int → Option Int → Hp → VK → Prop := fun x lo hi H Q => rSlL K x lo hi H Q ∨ rSlT K x lo hi H Q ∨ rSlS x lo hi H Q
section
variable {X : Cx}
theorem op_addG : OpR X (binaryOp .Add) (rAddG X.K) := op_add.or (op_add_str.or (op_catT.or op_cat))
theorem op_subG : OpR X (binaryOp .Sub) rSubG := op_sub
theorem op_mulG : OpR X (binaryOp .Mult) rMulG := OpR.or (opI fun _ _ _ _ _ _ _ hc q => mul_int q hc) op_rep
theorem op_divG : OpR X (binaryOp .FloorDiv) rDivG := opI fun _ _ _ _ _ _ _ hc q => floordiv_int hc.1 q (.inl (PyProof.noPylong_of_log2 hc.2))
theorem op_modG : OpR X (binaryOp .Mod) rModG := op_modN
theorem op_powG : OpR X (binaryOp .Pow) rPowG := op_pow
theorem un_negG : UnR X (unaryOp .USub) rNegG := un_neg
theorem op_ltG : OpR X (compareOp .Lt) rLtG := op_lt
theorem op_leG : OpR X (compareOp .LtE) rLeG := op_le
theorem op_gtG : OpR X (compareOp .Gt) rGtG := op_gt
theorem op_geG : OpR X (compareOp .GtE) rGeG := op_ge
theorem op_eqG (hu : X.A.units + 64 < cLine) : OpR X (compareOp .Eq) (rEqG X.K) := op_eq.or (op_eqD hu)
theorem op_neG (hu : X.A.units + 64 < cLine) : OpR X (compareOp .NotEq) (rNeG X.K) := op_ne.or (op_neD hu)
theorem op_isNG : OpR X (compareOp .Is) rIsNG := op_isN
theorem op_notNG : OpR X (compareOp .IsNot) rNotNG := op_notN
theorem call_absG : CallR X (.builtin "abs") rAbsG := call_abs
theorem call_intG : CallR X (.type "int") rIntG := call_int1
theorem call_boolG : CallR X (.type "bool") rBoolG := call_bool1
theorem call_lenG : CallR X (.builtin "len") (rLenG X.K) := call_len_seq.or call_len_str
theorem call_listG : CallR X (.type "list") (rListG X.K) := call_list_of
theorem call_isiG : CallR X (.builtin "isinstance") (rIsiG X.K) := call_isi
theorem sl_G : SlR X (rSlG X.K) := sl_list.or (sl_tup.or sl_str)
end

/-! ### step lemmas -/
def ParK (i j : Nat) (vs : List V) (σ : L2.St) (H1 : Hp) (n : L2.St → Hp → Prop) : Prop := ∃ v w, vs = [v, w] ∧ n ((σ.set i (some v)).set j (some w)) H1
def SFldK (K : PySem.W.Frag) (f : Str) (x y : V) (H : Hp) (R : Hp → Prop) : Prop := ∃ a C dx fs, x = .ref a ∧ H a = some (.ins C dx fs) ∧ Cls K C ∧ NoAttr K C f ∧ fs.length < 1000 ∧ R (upd H a (.ins C dx (putF f y fs)))
def BmK (K : PySem.W.Frag) (T : String) (x : V) (H : Hp) (P : Prop) : Prop := tyV K T x H ∧ P
section
variable {K : PySem.W.Frag} {σ σ' : L2.St} {H : Hp} {Q : VK} {v x y : V} {i : Nat} {ta tb tc te to ti : TE} {tt uu : TT} {t u ts : TS} {tl : TA} {n : L2.St → Hp → Prop} {r : VK} {b c : L2.St → Hp → Prop} {a p : Addr} {xs ys : List V} {k j : Int} {bb : Bool}
theorem st_var (h : σ[i]? = some (some v)) (q : Q v H) : tVar i σ H Q := ⟨v, h, q⟩
theorem st_c (q : Q v H) : tC v σ H Q := q
theorem st_op {rr : R2} (q : ta σ H fun x H1 => tb σ H1 fun y H2 => rr x y H2 Q) : tOp rr ta tb σ H Q := q
theorem st_un {rr : V → Hp → VK → Prop} (q : ta σ H fun x H1 => rr x H1 Q) : tUn rr ta σ H Q := q
theorem st_test {R : Bool → Hp → Prop} (q : te σ H fun x H' => ∃ k, x = .bl k ∧ R k H') : tTest te σ H R := q
theorem st_B {R : Bool → Hp → Prop} (q : te σ H fun x H' => ∃ k, x = .bl k ∧ R k H') : tB te σ H R := q
theorem st_exbl {R : Bool → Hp → Prop} (q : R bb H) : ∃ k, V.bl bb = V.bl k ∧ R k H := ⟨bb, rfl, q⟩
theorem st_exblP {R : Bool → Prop} (q : R bb) : ∃ k, V.bl bb = V.bl k ∧ R k := ⟨bb, rfl, q⟩
theorem st_and {R : Bool → Hp → Prop} (q : tt σ H fun c H1 => if c = true then uu σ H1 R else R false H1) : tAnd tt uu σ H R := q
theorem st_or {R : Bool → Hp → Prop} (q : tt σ H fun c H1 => if c = true then R true H1 else uu σ H1 R) : tOr tt uu σ H R := q
theorem st_not {R : Bool → Hp → Prop} (q : tt σ H fun c H1 => R (!c) H1) : tNot tt σ H R := q
theorem st_andV (q : ta σ H fun x H1 => ∃ c, x = .bl c ∧ if c = true then tb σ H1 Q else Q (.bl false) H1) : tAndV ta tb σ H Q := q
theorem st_orV (q : ta σ H fun x H1 => ∃ c, x = .bl c ∧ if c = true then Q (.bl true) H1 else tb σ H1 Q) : tOrV ta tb σ H Q := q
theorem st_notV (q : ta σ H fun x H1 => ∃ c, x = .bl c ∧ Q (.bl (!c)) H1) : tNotV ta σ H Q := q
theorem st_ifE (q : tt σ H fun c H1 => if c = true then ta σ H1 Q else tb σ H1 Q) : tIf tt ta tb σ H Q := q
theorem st_ite {A B : Prop} (h1 : bb = true → A) (h2 : bb = false → B) : if bb = true then A else B := by
  cases bb with
  | true => rw [if_pos rfl]; exact h1 rfl
  | false => rw [if_neg Bool.false_ne_true]; exact h2 rfl
theorem st_iteT {A B : Prop} (h : A) : if true = true then A else B := by rw [if_pos rfl]; exact h
theorem st_iteF {A B : Prop} (h : B) : if false = true then A else B := by rw [if_neg Bool.false_ne_true]; exact h
theorem st_chain {r1 r2 : R2} (q : ta σ H fun x H1 => tb σ H1 fun y H2 => r1 x y H2 fun z H3 => ∃ k, z = .bl k ∧ (if k = true then tc σ H3 fun w' H4 => r2 y w' H4 Q else Q (.bl false) H3)) : tChain r1 r2 ta tb tc σ H Q := q
theorem st_nil {R : List V → Hp → Prop} (q : R [] H) : tNil σ H R := q
theorem st_cons {R : List V → Hp → Prop} (q : ta σ H fun x H1 => tl σ H1 fun xs H2 => R (x :: xs) H2) : tCons ta tl σ H R := q
/-- a new tuple, a new list -/
def TupK (xs : List V) (H : Hp) (Q : VK) : Prop := xs.length ≤ sizeLine ∧ ∀ p, H p = none → Q (.ref p) (upd H p (.tup xs))
def LstK (xs : List V) (H : Hp) (Q : VK) : Prop := xs.length ≤ sizeLine ∧ ∀ p, H p = none → Q (.ref p) (upd H p (.lst xs))
theorem st_tup (q : tl σ H fun xs H1 => TupK xs H1 Q) : tTup tl σ H Q := q
theorem st_lst (q : tl σ H fun xs H1 => LstK xs H1 Q) : tLst tl σ H Q := q
theorem sz1000 {n : Nat} (h : n ≤ 1000) : n ≤ sizeLine := Nat.le_trans h (by decide)
theorem st_tupK (h : xs.length ≤ 1000) (q : ∀ p H', H p = none → Kp H H' → H' p = some (.tup xs) → Q (.ref p) H') : TupK xs H Q := ⟨sz1000 h, fun p e => q p _ e (Kp.new e) upd_same⟩
theorem st_lstK (h : xs.length ≤ 1000) (q : ∀ p H', H p = none → Kp H H' → H' p = some (.lst xs) → Q (.ref p) H') : LstK xs H Q := ⟨sz1000 h, fun p e => q p _ e (Kp.new e) upd_same⟩
/-- calls -/
theorem st_call {sp : Sp} {E : XK} (q : tl σ H fun vs H1 => sp vs H1 Q E) : tCall sp [] E tl σ H Q := by
  unfold tCall
  simp only [List.append_nil]
  exact q
theorem st_sm {C : Addr} {sp : Sp} {E : XK} (q : tl σ H fun vs H1 => sp vs H1 Q E) : tSM C sp [] E (tC (.ref C)) tl σ H Q := by
  refine ⟨rfl, ?_⟩
  simp only [List.append_nil]
  exact q
theorem st_cb {R : List V → Hp → VK → Prop} (q : tl σ H fun vs H1 => R vs H1 Q) : tCB R tl σ H Q := q
/-- what a method's call asks of its receiver -/
def RecvK (C : Addr) (m : Str) (x : V) (H : Hp) (R : Prop) : Prop := ∃ a dx fs, x = .ref a ∧ H a = some (.ins C dx fs) ∧ fs.lookup m = none ∧ R
theorem st_meth {C : Addr} {m : Str} {sp : Sp} {E : XK} (q : ta σ H fun x H1 => RecvK C m x H1 (tl σ H1 fun vs H2 => sp (x :: vs) H2 Q E)) : tMeth C m sp [] E ta tl σ H Q := by
  unfold tMeth
  simp only [List.append_nil]
  exact q
theorem st_methK {C : Addr} {m : Str} {sp : Sp} {E : XK} {gV : List V → List V} {tk : TA} (q : ta σ H fun x H1 => RecvK C m x H1 (tk σ H1 fun zs H2 => sp (x :: gV zs) H2 Q E)) : tMethK C m sp gV E ta tk σ H Q := q
theorem st_recv {C dx : Addr} {m : Str} {fs : List (Str × V)} {R : Prop} (h : H a = some (.ins C dx fs)) (l : fs.lookup m = none) (q : R) : RecvK C m (.ref a) H R := ⟨a, dx, fs, rfl, h, l, q⟩
/-- an attribute -/
def FldK (K : PySem.W.Frag) (f : Str) (x : V) (H : Hp) (Q : VK) : Prop := ∃ a C dx fs v, x = .ref a ∧ H a = some (.ins C dx fs) ∧ Cls K C ∧ NoAttr K C f ∧ fs.lookup f = some v ∧ Q v H
theorem st_fld {f : Str} (q : ta σ H fun x H1 => FldK K f x H1 Q) : tFld K ta f σ H Q := q
theorem st_fldK {C dx : Addr} {f : Str} {fs : List (Str × V)} (h : H a = some (.ins C dx fs)) (c : Cls K C) (na : NoAttr K C f) (l : fs.lookup f = some v) (q : Q v H) : FldK K f (.ref a) H Q := ⟨a, C, dx, fs, v, rfl, h, c, na, l, q⟩
/-! operators on values -/
theorem add_ii (q : Q (.int (k + j)) H) : rAddG K (.int k) (.int j) H Q := .inl ⟨k, j, rfl, rfl, q⟩
theorem add_ss {z w : Str} (h : z.length + w.length ≤ sizeLine) (q : Q (.str (z ++ w)) H) : rAddG K (.str z) (.str w) H Q := .inr (.inl ⟨z, w, rfl, rfl, h, q⟩)
theorem eq_t2 {d : Addr} {i0 i1 j0 j1 : Int} (h1 : SqT K H a [.int i0, .int i1]) (h2 : SqT K H d [.int j0, .int j1]) (q : Q (.bl (decide (i0 = j0 ∧ i1 = j1))) H) : rEqG K (.ref a) (.ref d) H Q :=
  .inr ⟨_, _, .tup h1 (.cons (.int _) (.cons (.int _) .nil)), .tup h2 (.cons (.int _) (.cons (.int _) .nil)), by rfl, by rfl, by
    have e : PyData.eqv (.tuple [.int i0, .int i1]) (.tuple [.int j0, .int j1]) = decide (i0 = j0 ∧ i1 = j1) := by simp [PyData.eqv, PyData.eqvAll, Bool.beq_eq_decide_eq]
    rw [e]
    exact q⟩
theorem ne_t2 {d : Addr} {i0 i1 j0 j1 : Int} (h1 : SqT K H a [.int i0, .int i1]) (h2 : SqT K H d [.int j0, .int j1]) (q : Q (.bl (!decide (i0 = j0 ∧ i1 = j1))) H) : rNeG K (.ref a) (.ref d) H Q :=
  .inr ⟨_, _, .tup h1 (.cons (.int _) (.cons (.int _) .nil)), .tup h2 (.cons (.int _) (.cons (.int _) .nil)), by rfl, by rfl, by
    have e : PyData.eqv (.tuple [.int i0, .int i1]) (.tuple [.int j0, .int j1]) = decide (i0 = j0 ∧ i1 = j1) := by simp [PyData.eqv, PyData.eqvAll, Bool.beq_eq_decide_eq]
    rw [e]
    exact q⟩
theorem in_s2 {z s1 s2 : Str} (h : SqT K H a [.str s1, .str s2]) (q : Q (.bl (decide (z = s1) || decide (z = s2))) H) : rIn K false (.str z) (.ref a) H Q := ⟨a, _, rfl, .inr h, rfl, rfl, by
  have e : inV (.str z) [.str s1, .str s2] = (decide (z = s1) || decide (z = s2)) := by
    have e1 : ∀ w : Str, eqV (.str w) (.str z) = decide (z = w) := fun w => by
      show (w == z) = decide (z = w)
      by_cases e : z = w
      · subst e; simp
      · rw [decide_eq_false e]; exact beq_eq_false_iff_ne.mpr (Ne.symm e)
    simp [inV, e1]
  show Q (.bl (if false = true then !inV (.str z) [.str s1, .str s2] else inV (.str z) [.str s1, .str s2])) H
  rw [if_neg Bool.false_ne_true, e]
  exact q⟩
theorem add_tt {d : Addr} {zs : List V} (h1 : SqT K H a xs) (h2 : SqT K H d ys) (n1 : xs ≠ []) (n2 : ys ≠ []) (l : xs.length + ys.length ≤ 1000) (e : xs ++ ys = zs) (q : ∀ p H', H p = none → Kp H H' → H' p = some (.tup zs) → Q (.ref p) H') : rAddG K (.ref a) (.ref d) H Q :=
  .inr (.inr (.inl ⟨a, d, xs, ys, rfl, rfl, h1, h2, n1, sz1000 l, fun e => absurd e n2, fun _ p n => q p _ n (Kp.new n) (by rw [upd_same, e])⟩))
theorem add_ll {d : Addr} (h1 : H a = some (.lst xs)) (h2 : H d = some (.lst ys)) (l : xs.length + ys.length ≤ 1000) (q : ∀ p H', H p = none → Kp H H' → H' p = some (.lst (xs ++ ys)) → Q (.ref p) H') : rAddG K (.ref a) (.ref d) H Q :=
  .inr (.inr (.inr ⟨a, d, xs, ys, rfl, rfl, h1, h2, sz1000 l, fun p e => q p _ e (Kp.new e) upd_same⟩))
theorem sub_ii (q : Q (.int (k - j)) H) : rSubG (.int k) (.int j) H Q := ⟨k, j, rfl, rfl, q⟩
theorem mul_ii (h : IntMulOk k j) (q : Q (.int (k * j)) H) : rMulG (.int k) (.int j) H Q := .inl ⟨k, j, rfl, rfl, h, q⟩
theorem div_ii {m : Nat} (h0 : 0 < j) (h : Bd m j) (l : m < 9000) (q : Q (.int (k / j)) H) : rDivG (.int k) (.int j) H Q := ⟨k, j, rfl, rfl, ⟨by omega, Nat.lt_of_le_of_lt (log_of h) l⟩, by show Q (.int (k.fdiv j)) H; rw [Int.fdiv_eq_ediv_of_nonneg k (by omega)]; exact q⟩
theorem fdiv_ii {m : Nat} (h0 : j ≠ 0) (h : Bd m j) (l : m < 9000) (q : Q (.int (k.fdiv j)) H) : rDivG (.int k) (.int j) H Q := ⟨k, j, rfl, rfl, ⟨h0, Nat.lt_of_le_of_lt (log_of h) l⟩, q⟩
theorem mod_ii (h0 : 0 < j) (q : Q (.int (k % j)) H) : rModG (.int k) (.int j) H Q := ⟨k, j, rfl, rfl, by omega, by show Q (.int (k.fmod j)) H; rw [Int.fmod_eq_emod_of_nonneg k (by omega)]; exact q⟩
theorem fmod_ii (h0 : j ≠ 0) (q : Q (.int (k.fmod j)) H) : rModG (.int k) (.int j) H Q := ⟨k, j, rfl, rfl, h0, q⟩
theorem pow_ii {z : Int} (h : CPow k j) (e : k ^ j.toNat = z) (q : Q (.int z) H) : rPowG (.int k) (.int j) H Q := ⟨k, j, rfl, rfl, h, by show Q (.int (k ^ j.toNat)) H; rw [e]; exact q⟩
theorem neg_i (q : Q (.int (-k)) H) : rNegG (.int k) H Q := ⟨k, rfl, q⟩
theorem lt_ii (q : Q (.bl (decide (k < j))) H) : rLtG (.int k) (.int j) H Q := ⟨k, j, rfl, rfl, q⟩
theorem le_ii (q : Q (.bl (decide (k ≤ j))) H) : rLeG (.int k) (.int j) H Q := ⟨k, j, rfl, rfl, q⟩
theorem gt_ii (q : Q (.bl (decide (j < k))) H) : rGtG (.int k) (.int j) H Q := ⟨k, j, rfl, rfl, q⟩
theorem ge_ii (q : Q (.bl (decide (j ≤ k))) H) : rGeG (.int k) (.int j) H Q := ⟨k, j, rfl, rfl, q⟩
theorem dec_i : decide (V.int k = V.int j) = decide (k = j) := by by_cases e : k = j <;> simp [e]
theorem dec_s {z w : Str} : decide (V.str z = V.str w) = decide (z = w) := by by_cases e : z = w <;> simp [e]
theorem dec_b {f g : Bool} : decide (V.bl f = V.bl g) = decide (f = g) := by by_cases e : f = g <;> simp [e]
theorem eq_ii (q : Q (.bl (decide (k = j))) H) : rEqG K (.int k) (.int j) H Q := .inl ⟨rfl, by rw [dec_i]; exact q⟩
theorem eq_ss {z w : Str} (q : Q (.bl (decide (z = w))) H) : rEqG K (.str z) (.str w) H Q := .inl ⟨rfl, by rw [dec_s]; exact q⟩
theorem eq_bb {f g : Bool} (q : Q (.bl (decide (f = g))) H) : rEqG K (.bl f) (.bl g) H Q := .inl ⟨rfl, by rw [dec_b]; exact q⟩
theorem ne_ii (q : Q (.bl (!decide (k = j))) H) : rNeG K (.int k) (.int j) H Q := .inl ⟨rfl, by rw [dec_i]; exact q⟩
theorem ne_ss {z w : Str} (q : Q (.bl (!decide (z = w))) H) : rNeG K (.str z) (.str w) H Q := .inl ⟨rfl, by rw [dec_s]; exact q⟩
theorem ne_bb {f g : Bool} (q : Q (.bl (!decide (f = g))) H) : rNeG K (.bl f) (.bl g) H Q := .inl ⟨rfl, by rw [dec_b]; exact q⟩
theorem eq_dd {d e : PyData} (h1 : Dp K H x d) (h2 : Dp K H y e) (s1 : SeqAt.shaped d = true) (s2 : SeqAt.shaped e = true) (q : Q (.bl (PyData.eqv d e)) H) : rEqG K x y H Q := .inr ⟨d, e, h1, h2, s1, s2, q⟩
theorem ne_dd {d e : PyData} (h1 : Dp K H x d) (h2 : Dp K H y e) (s1 : SeqAt.shaped d = true) (s2 : SeqAt.shaped e = true) (q : Q (.bl (!PyData.eqv d e)) H) : rNeG K x y H Q := .inr ⟨d, e, h1, h2, s1, s2, q⟩
theorem isN_n (q : Q (.bl (decide (x = .non))) H) : rIsNG x .non H Q := ⟨rfl, q⟩
theorem notN_n (q : Q (.bl (!decide (x = .non))) H) : rNotNG x .non H Q := ⟨rfl, q⟩
theorem abs_i (q : Q (.int ((k.natAbs : Nat) : Int)) H) : rAbsG [.int k] H Q := ⟨k, rfl, by
  have e : (if k < 0 then -k else k) = ((k.natAbs : Nat) : Int) := by split <;> omega
  rw [e]
  exact q⟩
theorem int_i (q : Q (.int k) H) : rIntG [.int k] H Q := .inl ⟨k, rfl, q⟩
theorem int_b (q : Q (.int (if bb then 1 else 0)) H) : rIntG [.bl bb] H Q := .inr ⟨bb, rfl, q⟩
theorem bool_i (q : Q (.bl (decide (k ≠ 0))) H) : rBoolG [.int k] H Q := .inl ⟨k, rfl, by
  have e : (k != 0) = decide (k ≠ 0) := by by_cases h : k = 0 <;> simp [h]
  rw [e]
  exact q⟩
theorem bool_b (q : Q (.bl bb) H) : rBoolG [.bl bb] H Q := .inr ⟨bb, rfl, q⟩
theorem len_l (h : SqL K H a xs) (q : Q (.int xs.length) H) : rLenG K [.ref a] H Q := .inl ⟨a, xs, rfl, .inl h, q⟩
theorem len_t (h : SqT K H a xs) (q : Q (.int xs.length) H) : rLenG K [.ref a] H Q := .inl ⟨a, xs, rfl, .inr h, q⟩
theorem len_s {z : Str} (h : z.length ≤ sizeLine) (q : Q (.int z.length) H) : rLenG K [.str z] H Q := .inr ⟨z, rfl, h, q⟩
theorem list_l (h : SqL K H a xs) (q : ∀ p H', H p = none → Kp H H' → H' p = some (.lst xs) → Q (.ref p) H') : rListG K [.ref a] H Q := ⟨a, xs, rfl, .inl h, fun p e => q p _ e (Kp.new e) upd_same⟩
theorem list_t (h : SqT K H a xs) (q : ∀ p H', H p = none → Kp H H' → H' p = some (.lst xs) → Q (.ref p) H') : rListG K [.ref a] H Q := ⟨a, xs, rfl, .inr h, fun p e => q p _ e (Kp.new e) upd_same⟩
theorem isi_ty {tv : Value} {cn : String} {bo : Bool} (ty : TyX K H x tv) (h : PySem.W.kitOne K tv (.type cn) = some bo) (q : Q (.bl bo) H) : rIsiG K [x, .ty cn] H Q := ⟨x, .ty cn, tv, .type cn, bo, rfl, .ty cn, ty, h, q⟩
theorem isi_cl {tv : Value} {C : Addr} {bo : Bool} (ty : TyX K H x tv) (h : PySem.W.kitOne K tv (.ref C) = some bo) (q : Q (.bl bo) H) : rIsiG K [x, .ref C] H Q := ⟨x, .ref C, tv, .ref C, bo, rfl, .own C, ty, h, q⟩
theorem ix_l (h : SqL K H a xs) (e : atI xs k = some v) (q : Q v H) : rIx K (.ref a) (.int k) H Q := .inl ⟨a, xs, k, v, rfl, rfl, h, e, q⟩
theorem ix_t (h : SqT K H a xs) (e : atI xs k = some v) (q : Q v H) : rIx K (.ref a) (.int k) H Q := .inr (.inl ⟨a, xs, k, v, rfl, rfl, h, e, q⟩)
/-! slices -/
theorem st_sl {rs : V → Option Int → Option Int → Hp → VK → Prop} {t1 t2 : TO} (q : te σ H fun x H1 => t1 σ H1 fun l H2 => t2 σ H2 fun u H3 => rs x l u H3 Q) : tSl rs te t1 t2 σ H Q := q
theorem st_noPart {R : Option Int → Hp → Prop} (q : R none H) : tNoPart σ H R := q
theorem st_part {R : Option Int → Hp → Prop} (q : te σ H fun x H1 => ∃ i, x = .int i ∧ R (some i) H1) : tPart te σ H R := q
theorem st_exint {R : Int → Hp → Prop} (q : R k H) : ∃ i, V.int k = V.int i ∧ R i H := ⟨k, rfl, q⟩
theorem st_exintP {R : Int → Prop} (q : R k) : ∃ i, V.int k = V.int i ∧ R i := ⟨k, rfl, q⟩
theorem sl_l {lo hi : Option Int} (h : SqL K H a xs) (q : ∀ p H', H p = none → Kp H H' → H' p = some (.lst (cutV xs lo hi)) → Q (.ref p) H') : rSlG K (.ref a) lo hi H Q := .inl ⟨a, xs, rfl, h, fun p e => q p _ e (Kp.new e) upd_same⟩
theorem sl_t {lo hi : Option Int} (h : SqT K H a xs) (l : ¬ (HT.sIx xs.length 0 lo = 0 ∧ HT.sIx xs.length xs.length hi = xs.length)) (q : ∀ p H', H p = none → Kp H H' → H' p = some (.tup (cutV xs lo hi)) → Q (.ref p) H') : rSlG K (.ref a) lo hi H Q :=
  .inr (.inl ⟨a, xs, rfl, h, l, fun p e => q p _ e (Kp.new e) upd_same⟩)
/-! statements -/
theorem st_seq (q : t ⟨u ⟨n, r, b, c⟩, r, b, c⟩ σ H) : tSeq t u ⟨n, r, b, c⟩ σ H := q
theorem st_next (q : n σ H) : tNext ⟨n, r, b, c⟩ σ H := q
theorem st_brk (q : b σ H) : tBreak ⟨n, r, b, c⟩ σ H := q
theorem st_cont (q : c σ H) : tCont ⟨n, r, b, c⟩ σ H := q
theorem st_drop (q : te σ H fun _ H1 => n σ H1) : tDrop te ⟨n, r, b, c⟩ σ H := q
theorem st_ret (q : te σ H r) : tRet te ⟨n, r, b, c⟩ σ H := q
theorem st_retN (q : r .non H) : tRetN ⟨n, r, b, c⟩ σ H := q
theorem st_ifS (q : tt σ H fun e H1 => if e = true then t ⟨n, r, b, c⟩ σ H1 else u ⟨n, r, b, c⟩ σ H1) : tIfS tt t u ⟨n, r, b, c⟩ σ H := q
theorem st_asg {g : TG} (q : te σ H fun x H1 => g x σ H1 n) : tAsg te g ⟨n, r, b, c⟩ σ H := q
theorem st_gname (e : σ.set i (some v) = σ') (q : n σ' H) : gName i v σ H n := by subst e; exact q
theorem st_par {i j : Nat} (q : tl σ H fun vs H1 => ParK i j vs σ H1 n) : tPar i j tl ⟨n, r, b, c⟩ σ H := q
theorem st_parK {i j : Nat} (e : (σ.set i (some x)).set j (some y) = σ') (q : n σ' H) : ParK i j [x, y] σ H n := ⟨x, y, rfl, by rw [e]; exact q⟩
theorem st_gtup {m : Nat} {g : TGs} (h : SqT K H a xs) (l : xs.length = m) (q : g xs σ H n) : gTup K m g (.ref a) σ H n := ⟨a, xs, rfl, h, l, q⟩
theorem st_gcons {g : TG} {gs : TGs} (q : g v σ H fun σ' H' => gs xs σ' H' n) : gCons g gs (v :: xs) σ H n := ⟨v, xs, rfl, q⟩
theorem st_gnil (q : n σ H) : gNil [] σ H n := ⟨rfl, q⟩
theorem st_gsub {g : TSet} (q : to σ H fun o H1 => ti σ H1 fun i H2 => g o i v H2 fun H3 => n σ H3) : gSub to ti g v σ H n := q
theorem st_setL {R : Hp → Prop} {m : Nat} (h : H a = some (.lst xs)) (l : ixN xs.length k = some m) (e : xs.set m v = ys) (q : ∀ H', Md a H H' → H' a = some (.lst ys) → R H') : rSetL (.ref a) (.int k) v H R := ⟨a, xs, k, m, rfl, rfl, h, l, q _ (Md.upd h) (by rw [e]; exact upd_same)⟩
theorem st_setfld {f : Str} (q : te σ H fun y H1 => ta σ H1 fun x H2 => SFldK K f x y H2 (n σ)) : sFld K ta te f ⟨n, r, b, c⟩ σ H := q
theorem st_setfldK {C dx : Addr} {f : Str} {fs : List (Str × V)} {R : Hp → Prop} (h : H a = some (.ins C dx fs)) (cl : Cls K C) (na : NoAttr K C f) (l : fs.length < 1000) (q : R (upd H a (.ins C dx (putF f y fs)))) : SFldK K f (.ref a) y H R := ⟨a, C, dx, fs, rfl, h, cl, na, l, q⟩
/-- xs.append(y) -/
theorem st_bm {T : String} {R : V → List V → Hp → VK → Prop} (q : to σ H fun x H1 => BmK K T x H1 (tl σ H1 fun xs H2 => R x xs H2 Q)) : tBM K T R to tl σ H Q := q
theorem bm_list {P : Prop} (h : H a = some (.lst xs)) (q : P) : BmK K "list" (.ref a) H P := ⟨.inl ⟨rfl, _, SqL.of h⟩, q⟩
theorem append_l (h : H a = some (.lst xs)) (l : xs.length < sizeLine) (q : ∀ H', Md a H H' → H' a = some (.lst (xs ++ [v])) → Q .non H') : rAppend (.ref a) [v] H Q := ⟨a, xs, v, rfl, rfl, h, l, q _ (Md.upd h) upd_same⟩
theorem st_never : False → tNever ⟨n, r, b, c⟩ σ H := False.elim
end
end G
namespace G
open PySem PySem.Spec PyProof.Rows L2
section
variable {X : Cx} {x : Str} {pos : Pos} {C : Addr} {T : String}
theorem pe_ty (hg : Gl X x) (hm : X.mg x = none) (hv : bootBuiltins x = some (.type T)) (hn : x ≠ "__name__" := by decide) (hd : (x == ("__debug__" : Str)) = false := by decide) : PE X (.Name x pos) (tC (.ty T)) := pe_bltn hg hm hv rfl hn hd
theorem pe_cl (hg : Gl X x) (hm : X.mg x = some (.ref C)) (hd : (x == ("__debug__" : Str)) = false := by decide) : PE X (.Name x pos) (tC (.ref C)) := pe_glob hg hm rfl hd
end
end G
namespace G
open PySem PySem.Spec PyProof.Rows L2
theorem st_start {N : List Str} {vs : List V} {t : TS} {D : Ends} {σ' : L2.St} {H : Hp} (e : start N vs = σ') (q : t D σ' H) : t D (start N vs) H := by subst e; exact q
end G
namespace G
open PySem PySem.Spec PyProof.Rows L2
section
variable {K : PySem.W.Frag} {σ σ' : L2.St} {H : Hp} {Q : VK} {tt : TT} {ts : TS} {tl : TA} {n : L2.St → Hp → Prop} {r : VK} {b c : L2.St → Hp → Prop}
def WhK (W : Nat → L2.St → Hp → Prop) (m : Nat) (ts : TS) (r : VK) (n : L2.St → Hp → Prop) (σ : L2.St) (H : Hp) : Prop := ∃ N : L2.St → Hp → Prop, (∀ σ' H', N σ' H' → ∃ m', m' < m ∧ W m' σ' H') ∧ ts ⟨N, r, n, N⟩ σ H
/-- while: W at some measure holds at the start; a turn brings it to a lesser one -/
theorem st_while (W : Nat → L2.St → Hp → Prop) (m0 : Nat) (h0 : W m0 σ H) (hs : ∀ m σ H, W m σ H → tt σ H fun e H1 => if e = true then WhK W m ts r n σ H1 else n σ H1) : tWhile tt ts ⟨n, r, b, c⟩ σ H := ⟨W, ⟨m0, h0⟩, fun m σ H w => hs m σ H w⟩
theorem st_whK {W : Nat → L2.St → Hp → Prop} {m : Nat} (q : ts ⟨fun σ' H' => ∃ m', m' < m ∧ W m' σ' H', r, n, fun σ' H' => ∃ m', m' < m ∧ W m' σ' H'⟩ σ H) : WhK W m ts r n σ H := ⟨_, fun _ _ h => h, q⟩
/-- the making of an instance -/
def MakeK (C : Addr) (sp : Sp) (dvs : List V) (E : XK) (vs : List V) (H : Hp) (Q : VK) : Prop := ∀ x dx, H x = none → H dx = none → dx ≠ x → sp (.ref x :: (vs ++ dvs)) (upd (upd H dx (.own x)) x (.ins C dx [])) (fun v H2 => v = .non ∧ Q (.ref x) H2) E
theorem st_mk {C : Addr} {sp : Sp} {dvs : List V} {E : XK} (q : tl σ H fun vs H1 => MakeK C sp dvs E vs H1 Q) : tMake C sp dvs E tl σ H Q := q
theorem st_mkK {C : Addr} {sp : Sp} {dvs : List V} {E : XK} {vs : List V} (q : ∀ x dx H', H x = none → Kp H H' → H' x = some (.ins C dx []) → sp (.ref x :: (vs ++ dvs)) H' (fun v H2 => v = .non ∧ Q (.ref x) H2) E) : MakeK C sp dvs E vs H Q :=
  fun x dx nx nd ne => q x dx _ nx (.of fun b o e => by rw [upd_ne (ne_of_none e nx), upd_ne (ne_of_none e nd)]; exact e) upd_same
/-! for: the walked thing -/
def ForK (J : It) (g : TG) (ts : TS) (n : L2.St → Hp → Prop) (r : VK) (b c : L2.St → Hp → Prop) (σ : L2.St) (H1 : Hp) : Prop := ∃ W : Nat → Nat → L2.St → Hp → Prop, (∃ m, W 0 m σ H1) ∧ ∀ i m σ H, W i m σ H →
  (J.stop i H ∧ n σ H) ∨ (J.go i H ∧ ∃ N : L2.St → Hp → Prop, (∀ σ' H', N σ' H' → ∃ m', m' < m ∧ W (i + 1) m' σ' H') ∧ ∀ x H', J.yld i H x H' → g x σ H' fun σ2 H2 => ts ⟨N, r, n, N⟩ σ2 H2)
def ILK (K : PySem.W.Frag) (x : V) (H : Hp) (R : It → Hp → Prop) : Prop := ∃ a, x = .ref a ∧ (∃ xs, SqL K H a xs) ∧ R (Itl K a) H
def R1K (vs : List V) (H : Hp) (R : It → Hp → Prop) : Prop := ∃ j : Int, vs = [.int j] ∧ -(2 ^ 62) ≤ j ∧ j < 2 ^ 62 ∧ R (Itr 0 j.toNat) H
def R2K (vs : List V) (H : Hp) (R : It → Hp → Prop) : Prop := ∃ i j : Int, vs = [.int i, .int j] ∧ (-(2 ^ 62) ≤ i ∧ i < 2 ^ 62 ∧ -(2 ^ 62) ≤ j ∧ j < 2 ^ 62) ∧ R (Itr i (j - i).toNat) H
theorem st_for {wi : TI} {g : TG} (q : wi σ H fun J H1 => ForK J g ts n r b c σ H1) : tFor wi g ts ⟨n, r, b, c⟩ σ H := q
theorem st_iList {te : TE} {R : It → Hp → Prop} (q : te σ H fun x H1 => ILK K x H1 R) : iList K te σ H R := q
theorem st_iLK {a : Addr} {xs : List V} {R : It → Hp → Prop} (h : SqL K H a xs) (q : R (Itl K a) H) : ILK K (.ref a) H R := ⟨a, rfl, ⟨xs, h⟩, q⟩
theorem st_r1 {R : It → Hp → Prop} (q : tl σ H fun vs H1 => R1K vs H1 R) : iRng1 tl σ H R := q
theorem st_r2 {R : It → Hp → Prop} (q : tl σ H fun vs H1 => R2K vs H1 R) : iRng2 tl σ H R := q
theorem st_r1K {j : Int} {R : It → Hp → Prop} (h1 : -(2 ^ 62) ≤ j) (h2 : j < 2 ^ 62) (q : R (Itr 0 j.toNat) H) : R1K [.int j] H R := ⟨j, rfl, h1, h2, q⟩
theorem st_r2K {i j : Int} {R : It → Hp → Prop} (h : -(2 ^ 62) ≤ i ∧ i < 2 ^ 62 ∧ -(2 ^ 62) ≤ j ∧ j < 2 ^ 62) (q : R (Itr i (j - i).toNat) H) : R2K [.int i, .int j] H R := ⟨i, j, rfl, h, q⟩
theorem for_rng {lo : Int} {m : Nat} {g : TG} (Pv : Nat → L2.St → Hp → Prop) (h0 : Pv 0 σ H)
    (hs : ∀ i σ H, i < m → Pv i σ H → g (.int (lo + i)) σ H fun σ2 H2 => ts ⟨Pv (i + 1), r, n, Pv (i + 1)⟩ σ2 H2) (hd : ∀ σ H, Pv m σ H → n σ H) : ForK (Itr lo m) g ts n r b c σ H :=
  for_range (D := ⟨n, r, b, c⟩) Pv h0 hs hd
theorem for_lst {a : Addr} {xs : List V} {g : TG} (Pv : Nat → L2.St → Hp → Prop) (h0 : Pv 0 σ H) (hl : ∀ i σ H, i ≤ xs.length → Pv i σ H → SqL K H a xs)
    (hs : ∀ i x σ H, xs[i]? = some x → Pv i σ H → g x σ H fun σ2 H2 => ts ⟨Pv (i + 1), r, n, Pv (i + 1)⟩ σ2 H2) (hd : ∀ σ H, Pv xs.length σ H → n σ H) : ForK (Itl K a) g ts n r b c σ H :=
  for_list (D := ⟨n, r, b, c⟩) Pv h0 hl hs hd
end
end G
namespace G
open PySem PySem.Spec PyProof.Rows L2
/-- the instance at x was changed -/
structure Mi (x : Addr) (H H' : Hp) : Prop where
  all : ∀ b o, b ≠ x → H b = some o → (z : nt o = true := by first | rfl | assumption) → H' b = some o
  gone : ∀ b, H' b = .none → H b = .none
  tb : ∀ P, TabP H P → TabP H' P
theorem Mi.at {x a : Addr} {H H' : Hp} {o : HO} (k : Mi x H H') (h : H a = some o) (n : a ≠ x) (z : nt o = true := by first | rfl | assumption) : H' a = some o := k.all a o n h z
theorem Mi.trans {x : Addr} {H H1 H2 : Hp} (j : Mi x H H1) (k : Mi x H1 H2) : Mi x H H2 := ⟨fun b o n h z => k.all b o n (j.all b o n h z) z, fun b e => j.gone b (k.gone b e), fun P t => k.tb P (j.tb P t)⟩
theorem Mi.of_kp {x : Addr} {H H1 : Hp} (j : Kp H H1) : Mi x H H1 := ⟨fun b o _ h z => j.all b o h z, j.gone, j.tb⟩
theorem Kp.mi {x : Addr} {H H1 H2 : Hp} (n : H x = .none) (k : Kp H H1) (j : Mi x H1 H2) : Kp H H2 := ⟨fun c o e z => j.all c o (ne_of_none e n) (k.all c o e z) z, fun b e => k.gone b (j.gone b e), fun P t => j.tb P (k.tb P t)⟩
/-- all but x is kept, x was new: all is kept -/
theorem Kp.init {x : Addr} {H H1 H2 : Hp} (n : H x = .none) (k : Kp H H1) (j : Mi x H1 H2) : Kp H H2 := Kp.mi n k j
theorem st_setfldM {K : PySem.W.Frag} {C dx a : Addr} {f : Str} {fs : List (Str × V)} {H : Hp} {y : V} {R : Hp → Prop} (h : H a = some (.ins C dx fs)) (cl : Cls K C) (na : NoAttr K C f) (l : fs.length < 1000) (q : ∀ H', Mi a H H' → H' a = some (.ins C dx (putF f y fs)) → R H') : SFldK K f (.ref a) y H R :=
  st_setfldK h cl na l (q _ ⟨fun b o n e _ => by rw [upd_ne n]; exact e, none_upd h, fun _ t => tab_upd h rfl (fun _ _ => ins_code) t⟩ upd_same)
end G
namespace G
open PySem PySem.Spec PyProof.Rows L2
/-- the dict at p was changed -/
structure MD (p : Addr) (H H' : Hp) : Prop where
  was : ∃ kvs, H p = some (.dK kvs)
  all : ∀ b o, b ≠ p → H b = some o → (z : nt o = true := by first | rfl | assumption) → H' b = some o
  gone : ∀ b, H' b = .none → H b = .none
  tb : ∀ P, TabP H P → TabP H' P
section
variable {K : PySem.W.Frag} {H H' : Hp} {p a : Addr} {xs : List V} {C dx : Addr} {fs : List (Str × V)} {o : HO} {Q : VK} {σ : L2.St}
theorem MD.kp (k : MD p H H') (b : Addr) (o : HO) (n : b ≠ p) (h : H b = some o) (z : nt o = true := by first | rfl | assumption) : H' b = some o := k.all b o n h z
theorem MD.at (k : MD p H H') (h : H a = some o) (n : H a = some o → a ≠ p) (z : nt o = true := by first | rfl | assumption) : H' a = some o := k.all a _ (n h) h z
theorem MD.atN {H0 : Hp} (k : MD p H H') (n : H0 p = .none) (h0 : H0 a = some o) (h : H a = some o) (z : nt o = true := by first | rfl | assumption) : H' a = some o := k.all a _ (ne_of_none h0 n) h z
theorem MD.ins (k : MD p H H') (h : H a = some (.ins C dx fs)) : H' a = some (.ins C dx fs) := by
  obtain ⟨zs, e⟩ := k.was
  exact k.kp a _ (ne_of h e (fun z => by cases z)) h
theorem MD.tup (k : MD p H H') (h : H a = some (.tup xs)) : H' a = some (.tup xs) := by
  obtain ⟨zs, e⟩ := k.was
  exact k.kp a _ (ne_of h e (fun z => by cases z)) h
theorem MD.lst (k : MD p H H') (h : H a = some (.lst xs)) : H' a = some (.lst xs) := by
  obtain ⟨zs, e⟩ := k.was
  exact k.kp a _ (ne_of h e (fun z => by cases z)) h
theorem Kp.MD {H1 H2 : Hp} (n : H p = .none) (k : Kp H H1) (j : MD p H1 H2) : Kp H H2 := ⟨fun c o e z => j.all c o (ne_of_none e n) (k.all c o e z) z, fun b e => k.gone b (j.gone b e), fun P t => j.tb P (k.tb P t)⟩
/-- a dict display -/
def PairsK (trs : List (TE × TE)) (σ : L2.St) (H : Hp) (R : List (V × V) → Hp → Prop) : Prop := tPairs trs σ H R
def DispK (p : Addr) (ps : List (V × V)) (H : Hp) (Q : VK) : Prop := H p = some (.dK []) ∧ ∃ kvs : List (Key × V), ps = kvs.map (fun kv => (kV kv.1, kv.2)) ∧ kvs.length ≤ 15 ∧ Q (.ref p) (upd H p (.dK (mergeK [] kvs)))
theorem st_disp {trs : List (TE × TE)} (q : ∀ p H1, H p = none → Kp H H1 → H1 p = some (.dK []) → PairsK trs σ H1 fun ps H2 => DispK p ps H2 Q) : tDisp trs σ H Q := fun p e => q p _ e (Kp.new e) upd_same
theorem st_pairsN {R : List (V × V) → Hp → Prop} (q : R [] H) : PairsK [] σ H R := q
theorem st_pairsC {tk tv : TE} {r : List (TE × TE)} {R : List (V × V) → Hp → Prop} (q : tk σ H fun x H1 => tv σ H1 fun y H2 => PairsK r σ H2 fun ps H3 => R ((x, y) :: ps) H3) : PairsK ((tk, tv) :: r) σ H R := q
theorem st_dispS {zs : List (Str × V)} {ps : List (V × V)} (h : H p = some (.dK [])) (e : ps = zs.map fun z => (V.str z.1, z.2)) (l : zs.length ≤ 15) (q : ∀ H1, MD p H H1 → H1 p = some (.dK (mergeK [] (zs.map fun z => ((.inr z.1 : Key), z.2)))) → Q (.ref p) H1) : DispK p ps H Q :=
  ⟨h, zs.map (fun z => ((.inr z.1 : Key), z.2)), by rw [e, List.map_map]; rfl, by rw [List.length_map]; exact l, q _ ⟨⟨_, h⟩, fun b o n k _ => by rw [upd_ne n]; exact k, none_upd h, fun _ t => tab_upd h rfl (fun _ _ => dK_code) t⟩ upd_same⟩
theorem st_disp3 {s1 s2 s3 : Str} {v1 v2 v3 : V} (h : H p = some (.dK [])) (q : ∀ H1, MD p H H1 → H1 p = some (.dK (mergeK [] [(.inr s1, v1), (.inr s2, v2), (.inr s3, v3)])) → Q (.ref p) H1) : DispK p [(.str s1, v1), (.str s2, v2), (.str s3, v3)] H Q :=
  st_dispS (zs := [(s1, v1), (s2, v2), (s3, v3)]) h rfl (Nat.le_of_ble_eq_true rfl) q
/-- d.get(k, x) -/
def DgK (x : V) (H : Hp) (R : Addr → Prop) : Prop := ∃ a, x = .ref a ∧ IsD H a ∧ R a
def DgR (a : Addr) (y z : V) (H : Hp) (Q : VK) : Prop := ∃ o, DGet H a y o ∧ Q (o.getD z) H
theorem st_dget2 {td ty tx : TE} (q : td σ H fun x H1 => DgK x H1 fun a => ty σ H1 fun y H2 => tx σ H2 fun z H3 => DgR a y z H3 Q) : tDGet2 td ty tx σ H Q := q
theorem st_dgK {kvs : List (Key × V)} {R : Addr → Prop} (h : H a = some (.dK kvs)) (q : R a) : DgK (.ref a) H R := ⟨a, rfl, .inl ⟨kvs, .inl h⟩, q⟩
theorem st_dgS {kvs : List (Key × V)} {s : Str} {z v : V} (h : H a = some (.dK kvs)) (e : (valV kvs (.inr s)).getD z = v) (q : Q v H) : DgR a (.str s) z H Q := ⟨_, .inl ⟨kvs, .inr s, .inl h, rfl, rfl⟩, by rw [e]; exact q⟩
theorem st_dgSs {kvs : List (Key × V)} {s : Str} {z v : V} (h : H a = some (.dK kvs)) (e : valV kvs (.inr s) = some v) (q : Q v H) : DgR a (.str s) z H Q := st_dgS h (by rw [e]; rfl) q
theorem st_dgSn {kvs : List (Key × V)} {s : Str} {z : V} (h : H a = some (.dK kvs)) (e : valV kvs (.inr s) = none) (q : Q z H) : DgR a (.str s) z H Q := st_dgS h (by rw [e]; rfl) q
theorem eq_l2b {d : Addr} {i0 i1 j0 j1 : Bool} (h1 : SqL K H a [.bl i0, .bl i1]) (h2 : SqL K H d [.bl j0, .bl j1]) (q : Q (.bl (decide (i0 = j0 ∧ i1 = j1))) H) : rEqG K (.ref a) (.ref d) H Q :=
  .inr ⟨_, _, .lst h1 (.cons (.bl _) (.cons (.bl _) .nil)), .lst h2 (.cons (.bl _) (.cons (.bl _) .nil)), by rfl, by rfl, by
    have e : PyData.eqv (.list [.bool i0, .bool i1]) (.list [.bool j0, .bool j1]) = decide (i0 = j0 ∧ i1 = j1) := by cases i0 <;> cases i1 <;> cases j0 <;> cases j1 <;> rfl
    rw [e]
    exact q⟩
end
theorem one_units {k : Nat} {A : Around} (r : RoomG k A) : A.units + 1 < cLine := by have := r.units; omega
/-- all written by keywords but the first n: every parameter is written -/
theorem kb0_of {K : PySem.W.Frag} {x qual : Str} {params : Arguments} {body : List Stmt} {scope : Scope} {kws : List (Str × V)} {f : Addr} {fd : FuncData} (F : FunD K x qual params body scope [] kws f fd) {n : Nat} {ps ks : List Str}
    (hn : ps.length = n + ks.length)
    (h : ∀ (kV doc pm : Value) (an : Option Addr) (cdv ct : Value) (us ws : List Value), us.length = n → ws.length = ks.length → bindArgs (PySem.W.fnOf x qual params body scope .none kV doc pm an cdv ct) ⟨us, ks.zip ws⟩ = pure (ps.zip (us ++ ws))) : KB0 K fd n ps ks id id := by
  obtain ⟨oc, od, dV, kV, doc, pm, an, cdv, ct, osl, rfl, lk, hcd, hD, hK⟩ := F.ex
  rcases hD with ⟨_, rfl⟩ | ⟨e, _⟩
  · exact ⟨fun s us ws _ hu hl => .of_eq (h kV doc pm an cdv ct us ws hu (by rw [List.length_append, hu] at hl; exact (by simp only [id_eq] at hl; omega))), fun r => r⟩
  · exact absurd rfl e
end G
namespace G
open PySem PySem.Spec PySem.Calls PyProof.Rows L2
/-- the law's own call, by the promise of its def -/
theorem law_callG {P : Program} {w : World} {K : PySem.W.Frag} {mg mb : Str → Option Value} {CX : CXT} {k : Nat} {u a : Addr} {fd : FuncData} {x : Str} {sp : Sp} {s : Shared} {vs : List Value} {ns : List Int}
    (KX : K.In s.heap) (gl : s.heap.Ns mainGlobals mg) (bl : s.heap.Ns builtinsNs mb) (bb : ∀ x : Str, x ≠ "__name__" → mb x = bootBuiltins x) (lim : s.heap.NoLimit) (hg : s.gens = #[]) (ha : s.heap.get? a = some { cls := .type "list", data := .seq vs.toArray })
    (hi : IntsAre vs ns) (hl : ns.length ≤ sizeLine) (hr : Room k callerA) (F : ∀ base : Heap, K.In base → base.Ns mainGlobals mg → FnG P w K mg base CX k u fd [x] sp) (hb : ∀ (s : Shared) (v : Value), BindsTo s fd ⟨[v], []⟩ [(x, v)])
    (hsp : ∀ H : Hp, Only H → SqL K H a (ns.map V.int) → sp [.ref a] H (fun v _ => v = .bl true) fun _ _ _ => False) (hCX : ∀ H e s', CX [] H s (fun _ _ _ => False) e s' → False) :
    codeAny (model P w) callerA (.call (.ref u) ⟨[.ref a], []⟩) (fun r s' => r = .ok (.ret (.bool true)) ∧ OldK s.heap s'.heap ∧ s'.os = s.os ∧ AllBare s'.gens) s := by
  have rv := vals_ints hi
  obtain ⟨H, key⟩ : ∃ H : Hp, ∀ b, (H b = none ∧ (b = a → K.lookup a ≠ none)) ∨ (b = a ∧ K.lookup a = none ∧ H b = some (.frz { cls := .type "list", data := .seq vs.toArray } (.lst (ns.map V.int)))) :=
    ⟨fun b => if b = a ∧ K.lookup a = none then some (.frz { cls := .type "list", data := .seq vs.toArray } (.lst (ns.map V.int))) else none, fun b => by
      by_cases c : b = a ∧ K.lookup a = none
      · exact .inr ⟨c.1, c.2, if_pos c⟩
      · exact .inl ⟨if_neg c, fun e z => c ⟨e, z⟩⟩⟩
  have only : Only H := fun b => (key b).elim (fun h => .inl h.1) fun ⟨_, _, h⟩ => .inr ⟨_, _, h⟩
  have sq : SqL K H a (ns.map V.int) := by
    rcases key a with h | ⟨_, _, h⟩
    · cases q : K.lookup a with
      | none => exact absurd q (h.2 rfl)
      | some o =>
        have e := KX a o q
        rw [ha] at e
        cases e
        exact .inr ⟨_, vs.toArray, _, q, rfl, rfl, rfl, by rw [List.size_toArray, hi.length]; exact hl, by simpa using rv⟩
    · exact .inl (.inr ⟨_, h⟩)
  have ns' : ∀ {b : Addr} {m : Str → Option Value}, s.heap.Ns b m → (hidT s.heap H).Ns b m := by
    rintro b m ⟨o, es, ep, e, d, r⟩
    refine ⟨o, es, ep, hidT_get e ?_, d, r⟩
    rcases key b with h | ⟨rfl, _, _⟩
    · exact h.1
    · rw [ha] at e
      cases e
      cases (show Data.seq vs.toArray _ = Data.dict es ep from d)
  have inB : K.In (hidT s.heap H) := fun b o e => hidT_get (KX b o e) (by
    rcases key b with h | ⟨rfl, n, _⟩
    · exact h.1
    · rw [n] at e
      cases e)
  have hok : HOk P w H s.heap := fun b z e => by
    rcases key b with h | ⟨rfl, _, h⟩
    · rw [h.1] at e
      cases e
    · rw [h] at e
      cases e
      exact ⟨ha, by rw [List.length_map]; exact hl, vs, _, rv, ha⟩
  have md : Mod K mg (hidT s.heap H) := ⟨inB, ns' gl, ⟨mb, ns' bl, bb⟩, lim.elim fun m h => ⟨m, ns' h.1, h.2⟩⟩
  have env : Env0 P w K mg (hidT s.heap H) callerA [] s H := ⟨rfl, md, fun _ _ e => of_hidT e, Nat.le_of_eq (hidT_size _ _), trivial, (fun _ z => nomatch z), hok, .of_eq hg⟩
  refine codeAny_mono ((F _ inB (ns' gl)).run (us := [.ref a]) (vs := [.ref a]) ⟨hr, rfl⟩ env (hb s (.ref a)) (.cons rfl .nil) (hsp H only sq)) fun r s' h => ?_
  match r, h with
  | .error e, h => exact (hCX H e s' h).elim
  | .ok (.ret z), h =>
    obtain ⟨v, H', os, bare, un, hok', r', q⟩ := h
    cases (show v = .bl true from q)
    cases (show z = Value.bool true from r')
    refine ⟨rfl, OldK.of_keep fun b o e => ?_, os, bare⟩
    rcases key b with h | ⟨_, _, h⟩
    · exact un.keep b o e h.1 (fun z => nomatch z) (fun z => nomatch z)
    · have e1 := (hok b _ h).1
      have e2 := (hok' b _ (un.frzs b _ _ h)).1
      rw [e] at e1
      cases e1
      exact e2
/-- the goal that the head leaves, from the law's promise -/
theorem walk_ofG {l : PySem.W.OpenLaw} {n k : Nat} {q : Program} {loose : List Str} {XP : (Str → Option Value) → Heap → Prop} {YP : World → Heap → Prop} {d : DefRec} {CX : CXT} {x : Str} (hn : l.most = some n) (hz : n ≤ sizeLine) (hd : d.params.defaults = []) (hr : Room k callerA)
    (F : ∀ (w : World) (mg : Str → Option Value) (u : Addr) (h : Heap), YP w h → h.Ns mainGlobals mg → mg d.name = some (.ref u) → ∃ (K : PySem.W.Frag) (fd : FuncData) (sp : Sp), K.In h ∧ (∀ (s : Shared) (v : Value), BindsTo s fd ⟨[v], []⟩ [(x, v)]) ∧
      (∀ (H : Hp) (a : Addr) (ns : List Int), ns.length ≤ n → Only H → SqL K H a (ns.map V.int) → sp [.ref a] H (fun v _ => v = .bl true) fun _ _ _ => False) ∧ ∀ base : Heap, K.In base → base.Ns mainGlobals mg → FnG l.prog w K mg base CX k u fd [x] sp)
    (hCX : ∀ (H : Hp) (s : Shared) (e : Value) (s' : Shared), CX [] H s (fun _ _ _ => False) e s' → False) : PySem.W.WalkO q loose XP YP l.row.toRowW d [] (fun f vs => PySem.call f vs) :=
  Att.attach_call hn hd fun w _ _ mg _ u _ _ _ _ _ _ ns N Y _ _ _ hmg hobj hints hlen hg => by
    obtain ⟨K, fd, sp, KX, hb, hsp, hF⟩ := F w mg u _ Y N.T.g hmg
    exact law_callG KX N.T.g N.T.b N.T.builtins N.T.nolimit hg hobj hints (Nat.le_trans hlen hz) hr hF hb (fun H hO hS => hsp H _ ns hlen hO hS) fun H e s' => hCX H _ e s'
end G
namespace G
open PySem PySem.Spec PySem.Calls PyProof.Rows L2
/-! ### repr of data -/
theorem repr_reads {prog : Program} {w : World} {A : Around} {E : Value → Shared → Prop} {s : Shared} {Q : Value → Shared → Prop} {v : Value} {d : PyData} {as : List Addr} (r : Reads s.heap v d as) (hs : d.showable = true) (nd : d.hasDict = false) (hz : d.shown.length ≤ sizeLine)
    (hg : A.guards = some []) (hu : A.units + 1 + d.depth < cLine) (hQ : ∀ h' u tk, (∀ b o, s.heap.get? b = some o → h'.get? b = some o) → Q (.str d.shown u) { s with heap := h', toks := tk }) : wpAny (model prog w) A (call (.builtin "repr") [v]) Q E s := by
  cases v with
  | ref a => exact repr_of_reads' r hs (fun z => by rw [nd] at z; cases z) hg (by omega) (fun _ _ e => e) (fun h' u tk k => hQ h' u tk k) hz
  | none =>
    cases r
    exact P.repr_of_none (by simpa only [PyData.shown] using hQ s.heap _ _ fun _ _ e => e)
  | bool b =>
    cases r
    exact P.repr_of_bool (by simpa only [PyData.shown] using hQ s.heap _ _ fun _ _ e => e)
  | int i t =>
    cases r
    exact P.repr_of_int (by simpa [PyData.showable] using hs) (by simpa only [PyData.shown] using hQ s.heap _ _ fun _ _ e => e)
  | str x t =>
    cases r
    exact P.repr_of_str (by simpa only [PyData.shown] using hQ s.heap _ _ fun _ _ e => e) (by simpa only [PyData.shown] using hz)
  | _ => nomatch r
section
variable {X : Cx} {k : Nat} {H : Hp} {x : V} {Q : VK}
/-- repr(x), x data -/
def rReprG (K : PySem.W.Frag) : List V → Hp → VK → Prop := fun xs H Q => ∃ x d, xs = [x] ∧ Dp K H x d ∧ d.showable = true ∧ d.hasDict = false ∧ d.shown.length ≤ sizeLine ∧ d.depth ≤ 50 ∧ Q (.str d.shown) H
theorem call_reprG (hr : RoomG k X.A) : CallR X (.builtin "repr") (rReprG X.K) := by
  intro pins s σ H xs us Q I r h
  obtain ⟨x, d, rfl, dp, hs, nd, hz, hd, q⟩ := h
  obtain ⟨u, rfl, ru⟩ := vals1 r
  obtain ⟨as, rd⟩ := Dp.reads I d x u dp ru
  exact repr_reads rd hs nd hz hr.gs (by have := hr.units; omega) fun h' t tk k => ⟨.str _, H, I.kept k, ⟨t, rfl⟩, q⟩
end
end G
namespace G
open PySem PySem.Spec PySem.Calls PyProof.Rows PySem.W
/-! ### arithmetic that an own class defines: on the class's own things, with an int behind, with an int ahead -/
section
variable {prog : Program} {w : World} {A : Around} {E : Value → Shared → Prop} {s : Shared} {K : PySem.W.Frag} {x C L f f' : Addr} {h₀ : Heap} {m : Str → Option Value} {ox : Obj} {od : Option Obj} {nm T : String}
theorem intB_declines {M : Model} {n : String} {fi : Int → Int → Sem PySem.Fin} {a : Int} {t : Tok} {Q : PySem.Fin → Shared → Prop} (hx : s.heap.get? x = some ox) (hd : ox.data = .plain) (h : Q (.done (.ret .notImplemented)) s) :
    wpAny M A (PySem.Builtin.Int.intBinary n fi false ⟨[.int a t, .ref x], []⟩) Q E s := by
  obtain ⟨hp, g, d, tk, os⟩ := s
  unfold PySem.Builtin.Int.intBinary
  wp_walk
  rw [hd]
  wp_walk
  exact h
theorem mul_declines {M : Model} {a : Int} {t : Tok} {Q : PySem.Fin → Shared → Prop} (hx : s.heap.get? x = some ox) (hd : ox.data = .plain) (h : Q (.done (.ret .notImplemented)) s) : wpAny M A (Builtin.«int.__mul__» ⟨[.int a t, .ref x], []⟩) Q E s := intB_declines hx hd h
/-- what stands in a class's place for an operator -/
structure OpB (K : PySem.W.Frag) (C : Addr) (nm : String) (f : Addr) : Prop where
  first : selfFirst K C = true
  at_ : findIn K (.ref C) (PySem.dunder nm) = some (some (.ref f))
  fn : isFn K (.ref f) = true
  refl : ∃ rc, findIn K (.ref C) (dunderR nm) = some rc ∧ (rc = none ∨ ∃ g : Addr, rc = some (.ref g))
/-- no in-place def -/
structure NoI (K : PySem.W.Frag) (C : Addr) (nm : String) : Prop where
  ex : ∃ cd, clsIn K C = some cd ∧ cd.mro = [.ref C, .type "object"]
  no : findIn K (.ref C) (dunderI nm) = some none
  noO : findIn K (.type "object") (dunderI nm) = some none
theorem noFillI {M : Model} {h : Heap} {add : Bool} (X : K.In h) (n : NoI K C nm) : Looks M h (fillsInplaceSlot (.ref C) nm add) false := by
  intro A Q E s k q
  obtain ⟨cd, hcd, hm⟩ := n.ex
  have lm : Looks M h (mroOf (.ref C)) cd.mro := (looks_clsIn X hcd).andThen (f := fun cd => pure cd.mro) .now
  have lm' := lm.keeps k
  obtain ⟨hh, g, d, tt, os⟩ := s
  have X' : K.In hh := X.keeps k
  have l1 : Looks M hh (typeLookup (.ref C) (dunderI nm)) none := looks_findIn X' n.no
  have l2 : Looks M hh (typeLookup (.type "object") (dunderI nm)) none := looks_findIn X' n.noO
  unfold fillsInplaceSlot
  refine wpAny_bind (lm'.at ?_)
  rw [hm]
  repeat lk
  exact q
theorem bin1_same {b : Value} {Q : Value → Shared → Prop} (X : K.In s.heap) (I : InstAt s.heap x ox C od) (B : OpB K C nm f) (hb : Looks (model prog w) s.heap (typeOf b) (.ref C)) (h : wpAny (model prog w) A (call (.ref f) [.ref x, b]) (PySem.W.CmpBack Q) E s) :
    wpAny (model prog w) A (binaryOp1 nm (.ref x) b) (fun r s' => ∃ v, r = some v ∧ Q v s') E s := by
  obtain ⟨cd, rest, hcd, hm⟩ := ksp_first B.first
  have one := ksp_try X I B.at_ B.fn h
  obtain ⟨hh, g, d, tt, os⟩ := s
  have l1 : Looks (model prog w) hh (typeOf (.ref x)) (.ref C) := I.type
  have l2 : Looks (model prog w) hh (typeOf b) (.ref C) := hb
  have l3 : Looks (model prog w) hh (fillsNumberSlot (.ref C) nm) true := fills_K X hcd hm B.at_
  unfold binaryOp1
  refine wpAny_bind (l1.at (wpAny_bind (l2.at (wpAny_bind (l3.at ?_)))))
  simp only [beq_self_eq_true, if_true, Bool.and_false, Bool.false_eq_true, if_false, Bool.false_and]
  ksp_lk
  refine wpAny_mono one (fun r s' hr => ?_) fun _ _ e => e
  obtain ⟨v, rfl, hq⟩ := hr
  ksp_lk
  exact ⟨v, rfl, hq⟩
theorem bin1_type {b : Value} {fo ro : Option Value} {Q : Value → Shared → Prop} (X : K.In s.heap) (I : InstAt s.heap x ox C od) (B : OpB K C nm f) (hb : typeOf b = pure (.type T)) (h1 : findIn K (.type T) (PySem.dunder nm) = some fo) (h2 : findIn K (.type T) (dunderR nm) = some ro)
    (hsub : subIn K (.type T) (.ref C) = some false) (h : wpAny (model prog w) A (call (.ref f) [.ref x, b]) (PySem.W.CmpBack Q) E s) : wpAny (model prog w) A (binaryOp1 nm (.ref x) b) (fun r s' => ∃ v, r = some v ∧ Q v s') E s := by
  obtain ⟨cd, rest, hcd, hm⟩ := ksp_first B.first
  obtain ⟨rc, hr, hp⟩ := B.refl
  have one := ksp_try X I B.at_ B.fn h
  obtain ⟨hh, g, d, tt, os⟩ := s
  have l1 : Looks (model prog w) hh (typeOf (.ref x)) (.ref C) := I.type
  have l2 : Looks (model prog w) hh (typeOf b) (.type T) := Looks.of_pure hb
  have l3 : Looks (model prog w) hh (fillsNumberSlot (.ref C) nm) true := fills_K X hcd hm B.at_
  obtain ⟨right, l4⟩ : ∃ right, Looks (model prog w) hh (fillsNumberSlot (.type T) nm) right := ⟨_, ksp_fillsT X h1 h2⟩
  have l5 : Looks (model prog w) hh (isSubtype (.type T) (.ref C)) false := looks_subIn X hsub
  have l6 : Looks (model prog w) hh (numberSlotInPython (.ref C) nm) true := ksp_inPy X B.at_ hr hp
  have l7 : Looks (model prog w) hh (numberSlotInPython (.type T) nm) false := Looks.of_pure rfl
  have l8 : Looks (model prog w) hh (typeLookup (.type T) (dunderR nm)) ro := looks_findIn X h2
  have ne : (Value.ref C == Value.type T) = false := Bool.eq_false_iff.mpr fun q => by cases beq_iff_eq.mp q
  unfold binaryOp1
  refine wpAny_bind (l1.at (wpAny_bind (l2.at (wpAny_bind (l3.at ?_)))))
  simp only [ne, Bool.false_eq_true, if_false]
  cases right <;>
  · ksp_lk
    refine wpAny_mono one (fun r s' hr => ?_) fun _ _ e => e
    obtain ⟨v, rfl, hq⟩ := hr
    ksp_lk
    exact ⟨v, rfl, hq⟩
/-- int's own def declines -/
def Declines (prog : Program) (w : World) (nm : String) : Prop := ∀ {A : Around} {E : Value → Shared → Prop} {s : Shared} {Q : Option Value → Shared → Prop} {n : Int} {t : Tok} {x : Addr} {ox : Obj}, s.heap.get? x = some ox → ox.data = .plain → Q none s →
  wpAny (model prog w) A (tryMethod (.int n t) (PySem.dunder nm) (.ref x)) Q E s
theorem declines_mul : Declines prog w "mul" := fun {A E s Q n t x ox} hx hd q => by
  unfold tryMethod
  refine wpAny_bind ?_
  generalize hz : PySem.dunder "mul" = z
  refine wpAny_callSpecial?_slot (id := "int.__mul__") (T := "int") (typeIs_int s n t) (by rw [← hz]; exact F.slot_int_mul) ?_
  exact wpAny_call_entry F.slot_int_mul (typeIs_int s n t) F.entry_int_mul (intB_declines hx hd ⟨_, rfl, wpAny_pure q⟩) (F.args_int_mul_2 _ _)
theorem bin1_refl {n : Int} {t : Tok} {Q : Value → Shared → Prop} (X : K.In s.heap) (I : InstAt s.heap x ox C od) (hd : ox.data = .plain) (B : OpB K C nm f) (hr : findIn K (.ref C) (dunderR nm) = some (some (.ref f'))) (hf : isFn K (.ref f') = true)
    (hfill : fillsNumberSlot (.type "int") nm = pure true) (dec : Declines prog w nm) (hsub : subIn K (.ref C) (.type "int") = some false) (h : wpAny (model prog w) A (call (.ref f') [.ref x, .int n t]) (PySem.W.CmpBack Q) E s) :
    wpAny (model prog w) A (binaryOp1 nm (.int n t) (.ref x)) (fun r s' => ∃ v, r = some v ∧ Q v s') E s := by
  obtain ⟨cd, rest, hcd, hm⟩ := ksp_first B.first
  have one := ksp_try X I hr hf h
  have at_ := I.at_
  obtain ⟨hh, g, d, tt, os⟩ := s
  have l1 : Looks (model prog w) hh (typeOf (.int n t)) (.type "int") := Looks.of_pure rfl
  have l2 : Looks (model prog w) hh (typeOf (.ref x)) (.ref C) := I.type
  have l3 : Looks (model prog w) hh (fillsNumberSlot (.type "int") nm) true := Looks.of_pure hfill
  have l4 : Looks (model prog w) hh (fillsNumberSlot (.ref C) nm) true := fills_K X hcd hm B.at_
  have l5 : Looks (model prog w) hh (isSubtype (.ref C) (.type "int")) false := looks_subIn X hsub
  have l6 : Looks (model prog w) hh (numberSlotInPython (.type "int") nm) false := Looks.of_pure rfl
  have ne : (Value.type "int" == Value.ref C) = false := Bool.eq_false_iff.mpr fun q => by cases beq_iff_eq.mp q
  unfold binaryOp1
  refine wpAny_bind (l1.at (wpAny_bind (l2.at (wpAny_bind (l3.at ?_)))))
  simp only [ne, Bool.false_eq_true, if_false]
  ksp_lk
  refine dec at_ hd ?_
  ksp_lk
  refine wpAny_mono one (fun r s' hr => ?_) fun _ _ e => e
  obtain ⟨v, rfl, hq⟩ := hr
  ksp_lk
  exact ⟨v, rfl, hq⟩
theorem bin_of {op : Operator} {a b : Value} {Q : Value → Shared → Prop} (h : wpAny (model prog w) A (binaryOp1 op.info.2 a b) (fun r s' => ∃ v, r = some v ∧ Q v s') E s) : wpAny (model prog w) A (binaryOp op a b) Q E s := by
  rcases hi : op.info with ⟨sym, nm'⟩
  rw [hi] at h
  simp only [binaryOp, hi]
  refine wpAny_holding (wpAny_bind (wpAny_mono h (fun r s' hr => ?_) fun _ _ e => e))
  obtain ⟨v, rfl, hq⟩ := hr
  exact wpAny_pure hq
theorem inp_of {op : Operator} {b : Value} {Q : Value → Shared → Prop} (X : K.In s.heap) (I : InstAt s.heap x ox C od) (n : NoI K C op.info.2) (h : wpAny (model prog w) A (binaryOp1 op.info.2 (.ref x) b) (fun r s' => ∃ v, r = some v ∧ Q v s') E s) : wpAny (model prog w) A (inplaceOp op (.ref x) b) Q E s := by
  obtain ⟨hh, g, d, tt, os⟩ := s
  have l1 : Looks (model prog w) hh (typeOf (.ref x)) (.ref C) := I.type
  have l2 : Looks (model prog w) hh (fillsInplaceSlot (.ref C) op.info.2 (op == .Add)) false := noFillI X n
  unfold inplaceOp
  refine wpAny_holding ?_
  refine wpAny_bind (l1.at (wpAny_bind (l2.at ?_)))
  simp only [Bool.false_eq_true, if_false]
  refine wpAny_bind (wpAny_mono h (fun r s' hr => ?_) fun _ _ e => e)
  obtain ⟨v, rfl, hq⟩ := hr
  exact wpAny_pure hq
end
end G
namespace G
open PySem PySem.Spec PySem.Calls PyProof.Rows L2
/-! ### rules for operators that an own class defines -/
section
variable {X : Cx} {CX : CXT} {k : Nat} {C g g' : Addr} {sp : Sp} {E : XK} {fd : FuncData} {ps : List Str} {pins : List (Addr × Obj)} {σ : L2.St} {H : Hp} {s : Shared} {Q : VK} {a dx : Addr} {fs : List (Str × V)}
theorem inst_of (I : Inv X pins σ H s) (ha : H a = some (.ins C dx fs)) : ∃ ox od, ox.data = .plain ∧ PySem.W.InstAt s.heap a ox C od := by
  obtain ⟨mA, O, _⟩ := ins_get I.hok ha
  obtain ⟨od, J, _⟩ := O.look
  exact ⟨_, _, rfl, J⟩
theorem back {P : Value → Shared → Prop} (h : wpAny (model X.prog X.w) X.A (call (.ref g) [.ref a]) (EP X pins σ Q) X.xe s) : wpAny (model X.prog X.w) X.A (call (.ref g) [.ref a]) (EP X pins σ Q) X.xe s := h
/-- x op y, both of the class at C -/
def rBinS (C : Addr) (sp : Sp) (E : XK) : R2 := fun x y H Q => ∃ a dx fs b dy gs, x = .ref a ∧ y = .ref b ∧ H a = some (.ins C dx fs) ∧ H b = some (.ins C dy gs) ∧ sp [x, y] H Q E
/-- x op y, y an int -/
def rBinI (C : Addr) (sp : Sp) (E : XK) : R2 := fun x y H Q => ∃ a dx fs j, x = .ref a ∧ y = .int j ∧ H a = some (.ins C dx fs) ∧ sp [x, y] H Q E
/-- x op y, x an int, y of the class: y's own reflected def -/
def rBinR (C : Addr) (sp : Sp) (E : XK) : R2 := fun x y H Q => ∃ a dx fs j, x = .int j ∧ y = .ref a ∧ H a = some (.ins C dx fs) ∧ sp [y, x] H Q E
structure IntB (K : PySem.W.Frag) (C : Addr) (nm : String) : Prop where
  fo : ∃ o, PySem.W.findIn K (.type "int") (PySem.dunder nm) = some o
  ro : ∃ o, PySem.W.findIn K (.type "int") (dunderR nm) = some o
  sub : PySem.W.subIn K (.type "int") (.ref C) = some false
theorem cmp_end {P : Value → Shared → Prop} {v : Value} {s' : Shared} (h : EP X pins σ Q v s') : PySem.W.CmpBack (EP X pins σ Q) v s' := let ⟨_, _, _, rz, _⟩ := h; SlX.cmpback rz h
theorem bin1_S {op : Operator} (B : OpB X.K C op.info.2 g) (F : FnG X.prog X.w X.K X.mg X.base CX k g fd ps sp) (hr : RoomG k X.A) (hb : Binds X.K fd ps []) (hx : Passes CX X E) :
    OpR X (fun v u => binaryOp op v u) (rBinS C sp E) := by
  intro pins s σ H x y v u Q I rx ry h
  obtain ⟨a, dx, fs, b, dy, gs, rfl, rfl, ha, hb', q⟩ := h
  cases (show v = Value.ref a from rx)
  cases (show u = Value.ref b from ry)
  obtain ⟨ox, od, _, J⟩ := inst_of I ha
  obtain ⟨oy, oe, _, J2⟩ := inst_of I hb'
  exact bin_of (bin1_same I.kIn J B J2.type (thn (run_fnG (us := [.ref a, .ref b]) (vs := [.ref a, .ref b]) F hr hb .nil hx I (.cons rfl (.cons rfl .nil)) q) fun w s' z => cmp_end (P := fun _ _ => True) z))
theorem bin1_I {op : Operator} (B : OpB X.K C op.info.2 g) (J : IntB X.K C op.info.2) (F : FnG X.prog X.w X.K X.mg X.base CX k g fd ps sp) (hr : RoomG k X.A) (hb : Binds X.K fd ps []) (hx : Passes CX X E) :
    OpR X (fun v u => binaryOp op v u) (rBinI C sp E) := by
  intro pins s σ H x y v u Q I rx ry h
  obtain ⟨a, dx, fs, j, rfl, rfl, ha, q⟩ := h
  cases (show v = Value.ref a from rx)
  obtain ⟨t, rfl⟩ := (show ∃ t, u = Value.int j t from ry)
  obtain ⟨ox, od, _, J1⟩ := inst_of I ha
  obtain ⟨_, h1⟩ := J.fo
  obtain ⟨_, h2⟩ := J.ro
  exact bin_of (bin1_type I.kIn J1 B rfl h1 h2 J.sub (thn (run_fnG (us := [.ref a, .int j t]) (vs := [.ref a, .int j]) F hr hb .nil hx I (.cons rfl (.cons ⟨t, rfl⟩ .nil)) q) fun w s' z => cmp_end (P := fun _ _ => True) z))
theorem bin1_R {op : Operator} (B : OpB X.K C op.info.2 g) (r : OwnM X.K C (dunderR op.info.2) g') (fill : fillsNumberSlot (.type "int") op.info.2 = pure true) (dec : Declines X.prog X.w op.info.2) (sub : PySem.W.subIn X.K (.ref C) (.type "int") = some false)
    (F : FnG X.prog X.w X.K X.mg X.base CX k g' fd ps sp) (hr : RoomG k X.A) (hb : Binds X.K fd ps []) (hx : Passes CX X E) : OpR X (fun v u => binaryOp op v u) (rBinR C sp E) := by
  intro pins s σ H x y v u Q I rx ry h
  obtain ⟨a, dx, fs, j, rfl, rfl, ha, q⟩ := h
  cases (show u = Value.ref a from ry)
  obtain ⟨t, rfl⟩ := (show ∃ t, v = Value.int j t from rx)
  obtain ⟨ox, od, hd, J1⟩ := inst_of I ha
  exact bin_of (bin1_refl I.kIn J1 hd B r.at_ r.fn fill dec sub (thn (run_fnG (us := [.ref a, .int j t]) (vs := [.ref a, .int j]) F hr hb .nil hx I (.cons rfl (.cons ⟨t, rfl⟩ .nil)) q) fun w s' z => cmp_end (P := fun _ _ => True) z))
theorem inp_S {op : Operator} (B : OpB X.K C op.info.2 g) (n : NoI X.K C op.info.2) (F : FnG X.prog X.w X.K X.mg X.base CX k g fd ps sp) (hr : RoomG k X.A) (hb : Binds X.K fd ps []) (hx : Passes CX X E) : PIp X op (rBinS C sp E) := by
  intro pins s σ H x y v u Q I rx ry h
  obtain ⟨a, dx, fs, b, dy, gs, rfl, rfl, ha, hb', q⟩ := h
  cases (show v = Value.ref a from rx)
  cases (show u = Value.ref b from ry)
  obtain ⟨ox, od, _, J⟩ := inst_of I ha
  obtain ⟨oy, oe, _, J2⟩ := inst_of I hb'
  exact inp_of I.kIn J n (bin1_same I.kIn J B J2.type (thn (run_fnG (us := [.ref a, .ref b]) (vs := [.ref a, .ref b]) F hr hb .nil hx I (.cons rfl (.cons rfl .nil)) q) fun w s' z => cmp_end (P := fun _ _ => True) z))
theorem inp_I {op : Operator} (B : OpB X.K C op.info.2 g) (J : IntB X.K C op.info.2) (n : NoI X.K C op.info.2) (F : FnG X.prog X.w X.K X.mg X.base CX k g fd ps sp) (hr : RoomG k X.A) (hb : Binds X.K fd ps []) (hx : Passes CX X E) : PIp X op (rBinI C sp E) := by
  intro pins s σ H x y v u Q I rx ry h
  obtain ⟨a, dx, fs, j, rfl, rfl, ha, q⟩ := h
  cases (show v = Value.ref a from rx)
  obtain ⟨t, rfl⟩ := (show ∃ t, u = Value.int j t from ry)
  obtain ⟨ox, od, _, J1⟩ := inst_of I ha
  obtain ⟨_, h1⟩ := J.fo
  obtain ⟨_, h2⟩ := J.ro
  exact inp_of I.kIn J1 n (bin1_type I.kIn J1 B rfl h1 h2 J.sub (thn (run_fnG (us := [.ref a, .int j t]) (vs := [.ref a, .int j]) F hr hb .nil hx I (.cons rfl (.cons ⟨t, rfl⟩ .nil)) q) fun w s' z => cmp_end (P := fun _ _ => True) z))
/-- -x -/
def rNegO (C : Addr) (sp : Sp) (E : XK) : V → Hp → VK → Prop := fun x H Q => ∃ a dx fs, x = .ref a ∧ H a = some (.ins C dx fs) ∧ sp [x] H Q E
theorem un_negO (m : OwnM X.K C "__neg__" g) (F : FnG X.prog X.w X.K X.mg X.base CX k g fd ps sp) (hr : RoomG k X.A) (hb : Binds X.K fd ps []) (hx : Passes CX X E) : UnR X (unaryOp .USub) (rNegO C sp E) := by
  intro pins s σ H x v Q I rx h
  obtain ⟨a, dx, fs, rfl, ha, q⟩ := h
  cases (show v = Value.ref a from rx)
  obtain ⟨ox, od, _, J⟩ := inst_of I ha
  obtain ⟨mm, hF⟩ := I.fr
  exact PySem.W.ksp_neg hF I.ok.mod.kin J m.at_ m.fn (run_fnG (us := [.ref a]) (vs := [.ref a]) F hr hb .nil hx I (.cons rfl .nil) q)
/-- str(x) -/
def rStrO (C : Addr) (sp : Sp) (E : XK) : List V → Hp → VK → Prop := fun xs H Q => ∃ a dx fs, xs = [.ref a] ∧ H a = some (.ins C dx fs) ∧ sp [.ref a] H (fun v H' => ∃ z : Str, v = .str z ∧ Q v H') E
theorem call_strO (m : OwnM X.K C "__str__" g) (F : FnG X.prog X.w X.K X.mg X.base CX k g fd ps sp) (hr : RoomG (k + 2) X.A) (hb : Binds X.K fd ps []) (hx : Passes CX X E) : CallR X (.type "str") (rStrO C sp E) := by
  intro pins s σ H xs us Q I r h
  obtain ⟨a, dx, fs, rfl, ha, q⟩ := h
  obtain ⟨u, rfl, ru⟩ := vals1 r
  cases (show u = Value.ref a from ru)
  obtain ⟨ox, od, _, J⟩ := inst_of I ha
  have run := run_at (args := ⟨[.ref a], []⟩) (ws := [.ref a]) (vs := [.ref a]) F (hr.in1).in1 I.env0.in1.in1 hx I (hb s [.ref a] I.kIn (by have l := F.len q; exact l)) (.cons rfl .nil) q
  refine PySem.W.kso_call (by have := hr.units; show X.A.units + 1 + 1 < cLine; omega) I.kIn J m.at_ m.fn (wpAny_mono (wp_er run) (fun v s' z => ?_) fun _ _ e => e)
  obtain ⟨w, H', I', rw', z, ez, qz⟩ := z
  subst ez
  obtain ⟨t, e⟩ := (show ∃ t, v = Value.str z t from rw')
  subst e
  exact ⟨.str z, H', I', ⟨t, rfl⟩, qz⟩
/-- bool(x) -/
def rBoolO (C : Addr) (sp : Sp) (E : XK) : List V → Hp → VK → Prop := fun xs H Q => ∃ a dx fs, xs = [.ref a] ∧ H a = some (.ins C dx fs) ∧ sp [.ref a] H (fun v H' => ∃ b : Bool, v = .bl b ∧ Q v H') E
theorem call_boolO (m : OwnM X.K C "__bool__" g) (F : FnG X.prog X.w X.K X.mg X.base CX k g fd ps sp) (hr : RoomG (k + 2) X.A) (hb : Binds X.K fd ps []) (hx : Passes CX X E) : CallR X (.type "bool") (rBoolO C sp E) := by
  intro pins s σ H xs us Q I r h
  obtain ⟨a, dx, fs, rfl, ha, q⟩ := h
  obtain ⟨u, rfl, ru⟩ := vals1 r
  cases (show u = Value.ref a from ru)
  obtain ⟨ox, od, _, J⟩ := inst_of I ha
  obtain ⟨mm, hF⟩ := I.fr
  have run := run_at (args := ⟨[.ref a], []⟩) (ws := [.ref a]) (vs := [.ref a]) F (hr.in1).in1 I.env0.in1.in1 hx I (hb s [.ref a] I.kIn (by have l := F.len q; exact l)) (.cons rfl .nil) q
  have tr : wpAny (model X.prog X.w) X.A.in1.in1 (truthy (.ref a)) (fun b s' => EP X pins σ Q (.bool b) s') X.xe s := PySem.W.truthy_K hF I.ok.mod.kin J m.at_ m.fn (wpAny_mono (wp_er run) (fun v s' z => by
    obtain ⟨w, H', I', rw', b, ez, qz⟩ := z
    subst ez
    cases (show v = Value.bool b from rw')
    exact ⟨.bl b, H', I', rfl, qz⟩) fun _ _ e => e)
  refine callType_codes (T := "bool") (Bi := Builtin.«object.__init__») (Q₁ := fun r s₁ => ∃ b, r = .bool b ∧ EP X pins σ Q r s₁) PySem.F.called_bool (PySem.F.typeCall_bool_1 _) PySem.F.entry_object_init ?_ ?_
  · refine codeAny_of_tree ?_
    show wpAny _ X.A.in1.in1 (checkBuiltinCall "bool.__new__" ⟨[.type "bool", .ref a], []⟩ >>= fun _ => again (.builtin "bool.__new__" ⟨[.type "bool", .ref a], []⟩)) _ _ s
    refine wpAny_bind (wpAny_of_eq (PySem.F.newCall_bool_1 _) (wpAny_pure ⟨plainId_quiet (by decide +kernel) _, codeAny_builtin PySem.F.entry_bool_new ?_⟩))
    rw [Around.under_plainId (by decide +kernel) _]
    unfold Builtin.«bool.__new__»
    refine wpAny_bind (m := isType _) (wpAny_pure ?_)
    refine wpAny_bind (wpAny_of_eq PySem.F.conv_sub_bool ?_)
    refine wpAny_bind (m := someArgs _ _ _ _) (wpAny_pure ?_)
    exact wpAny_bind (wpAny_mono tr (fun b s' z => wpAny_pure ⟨b, rfl, z⟩) fun _ _ e => e)
  · rintro obj s₁ ⟨b, rfl, hq⟩
    exact ⟨PySem.typeIs_bool _ _, PySem.F.args_object_init_2 _ _, object_init_meets PySem.F.called_bool.init.lookup PySem.F.called_bool.made (by decide) X.prog X.w X.A.in1 _ s₁ ⟨PySem.typeIs_bool _ _, rfl, hq⟩⟩
/-- x != y, by the class's own __eq__ -/
def rNeO (K : PySem.W.Frag) (C : Addr) (sp : Sp) (E : XK) : R2 := fun x y H Q => ∃ a dx fs t, x = .ref a ∧ H a = some (.ins C dx fs) ∧ TyX K H y t ∧ PySem.W.notFirst K C t = true ∧ sp [x, y] H (fun v H' => ∃ b : Bool, v = .bl b ∧ Q (.bl (!b)) H') E
structure NeM (K : PySem.W.Frag) (C : Addr) (g : Addr) : Prop where
  eq : OwnM K C "__eq__" g
  ne : PySem.W.findIn K (.ref C) "__ne__" = some (some (.builtin "object.__ne__"))
  ob : PySem.W.mroIn K C (.type "object") = some true
theorem rc_of {prog : Program} {w : World} {A : Around} {E : Value → Shared → Prop} {K : PySem.W.Frag} {x : Addr} {ox : Obj} {od : Option Obj} {op : CmpOp} {b tb : Value} {R : Value → Shared → Prop} (hu : A.units < cLine) (KX : K.In s.heap) (I : PySem.W.InstAt s.heap x ox C od)
    (hb : PySem.W.Looks (model prog w) s.heap (typeOf b) tb) (hn : PySem.W.notFirst K C tb = true) (one : wpAny (model prog w) A (tryCompare (.ref x) (cmpInfo op).2.1 b) (fun r s' => ∃ v, r = some v ∧ R v s') E s) : wpAny (model prog w) A (richCompare op (.ref x) b) R E s := by
  have fin : wpAny (model prog w) A (tryCompare (.ref x) (cmpInfo op).2.1 b >>= fun r => match r with
      | some v => pure v
      | none => (default : Sem Value)) R E s := wpAny_bind (wpAny_mono one (fun r s' z => by
    obtain ⟨v, rfl, hv⟩ := z
    exact wpAny_pure hv) fun _ _ e => e)
  simp only [richCompare, oneThing_ref]
  refine wpAny_holding (wpAny_bind (wpAny_cRoomFor hu (wpAny_bind (I.type.here (wpAny_bind (hb.here ?_))))))
  have two : wpAny (model prog w) A (tryCompare (.ref x) (cmpInfo op).2.1 b) (fun r s' => ∃ v, r = some v ∧ R v s') E s := one
  split
  · rename_i q
    rcases Bool.or_eq_true_iff.mp hn with e | e
    · rw [beq_iff_eq.mp e] at q
      simp at q
    · refine wpAny_bind ((PySem.W.looks_subIn KX (beq_iff_eq.mp e)).here ?_)
      simp only [Bool.false_eq_true, if_false]
      exact wpAny_bind (wpAny_mono two (fun r s' z => by obtain ⟨v, rfl, hv⟩ := z; exact wpAny_pure hv) fun _ _ e => e)
  · refine wpAny_bind (wpAny_pure ?_)
    simp only [Bool.false_eq_true, if_false]
    exact wpAny_bind (wpAny_mono two (fun r s' z => by obtain ⟨v, rfl, hv⟩ := z; exact wpAny_pure hv) fun _ _ e => e)
theorem ifBound_ne {M : Model} {A : Around} {E : Value → Shared → Prop} {K : PySem.W.Frag} {x : Addr} {ox : Obj} {od : Option Obj} {args : List Value} {R : Option Value → Shared → Prop} (KX : K.In s.heap) (I : PySem.W.InstAt s.heap x ox C od) (hs : PySem.W.findIn K (.ref C) "__ne__" = some (some (.builtin "object.__ne__")))
    (h : wpAny M A (call (.builtin "object.__ne__") (.ref x :: args)) (fun v => R (some v)) E s) : wpAny M A (callSpecialIfBound? (.ref x) "__ne__" args) R E s := by
  simp only [callSpecialIfBound?, bindSpecialIfBound?]
  refine wpAny_holding (wpAny_bind (wpAny_bind (wpAny_bind (I.type.here ((PySem.W.looks_findIn KX hs).here (wpAny_bind (wpAny_askSetting (wpAny_ite ?_))))))))
  have fin : wpAny M A (call (.builtin "object.__ne__") ([.ref x] ++ args) >>= fun v => pure (some v)) R E s := wpAny_bind (wpAny_mono h (fun _ _ z => wpAny_pure z) fun _ _ z => z)
  have b := PySem.F.cmp_object.ne.bind (.ref x)
  split
  · exact wpAny_bind (wpAny_of_eq b (wpAny_pure (by exact fin)))
  · exact wpAny_tryCatch (wpAny_bind (wpAny_of_eq b (wpAny_pure (by exact fin))))
theorem op_neO (m : NeM X.K C g) (F : FnG X.prog X.w X.K X.mg X.base CX k g fd ps sp) (hr : RoomG (k + 1) X.A) (hb : Binds X.K fd ps []) (hx : Passes CX X E) : OpR X (fun v u => compareOp .NotEq v u) (rNeO X.K C sp E) := by
  intro pins s σ H x y v u Q I rx ry h
  obtain ⟨a, dx, fs, t, rfl, ha, ty, hn, q⟩ := h
  cases (show v = Value.ref a from rx)
  obtain ⟨ox, od, _, J⟩ := inst_of I ha
  obtain ⟨Pt, Z, pz, _⟩ := kit_of I ry ty
  have hu := hr.units
  have run := run_at (args := ⟨[.ref a, u], []⟩) (ws := [.ref a, u]) (vs := [.ref a, y]) F hr.in1 I.env0.in1 hx I (hb s [.ref a, u] I.kIn (by have l := F.len q; exact l)) (.cons rfl (.cons ry .nil)) q
  have one : wpAny (model X.prog X.w) X.A (tryCompare (.ref a) "__ne__" u) (fun r s' => ∃ v, r = some v ∧ EP X pins σ Q v s') X.xe s := by
    unfold tryCompare
    refine wpAny_bind (ifBound_ne I.kIn J m.ne (wpAny_call (codeAny_call_builtin PySem.F.cmp_object.ne.plain PySem.F.cmpEntry_ne (PySem.W.check_slot PySem.F.cmpKind_ne PySem.F.cmpSplit_ne (J.type.andThen (PySem.W.looks_mroIn I.kIn m.ob)) (PySem.F.cmpArgs_ne _ _) ?_))))
    unfold Builtin.«object.__ne__»
    refine wpAny_bind (m := slotArgs _ _ _) (wpAny_pure ?_)
    refine wpAny_bind (wpAny_cRoomFor (by show X.A.units + 1 < cLine; omega) ?_)
    refine wpAny_bind (m := callSpecialIfBound? (.ref a) (Str.ofString "__eq__") [u]) (PySem.W.ifBound_K I.kIn J m.eq.at_ m.eq.fn (wpAny_mono (wp_er run) (fun v s' z => ?_) fun _ _ e => e))
    obtain ⟨w, H', I', rw', b, ez, qz⟩ := z
    subst ez
    cases (show v = Value.bool b from rw')
    refine wpAny_bind (m := truthy (.bool b)) (wpAny_truthy_bool (wpAny_pure ?_))
    exact wpAny_pure ⟨_, rfl, ⟨.bl (!b), H', I', rfl, qz⟩⟩
  exact rc_of (op := .NotEq) hr.units0 I.kIn J (Z.ty _ _ I.kIn pz) hn one
end
end G
namespace G
open PySem PySem.Spec PyProof.Rows L2
/-! ### facts of own operators, as Bools -/
section
variable {K : PySem.W.Frag} {x : Str} {nm : String}
def opB (x : Str) (nm : String) : ExB := fun K => PySem.W.selfFirst K (He.ga K x) && (He.eqO (PySem.W.findIn K (.ref (He.ga K x)) (PySem.dunder nm)) (some (some (.ref (He.ma K (He.ga K x) (PySem.dunder nm))))) && (PySem.W.isFn K (.ref (He.ma K (He.ga K x) (PySem.dunder nm))) &&
  (match PySem.W.findIn K (.ref (He.ga K x)) (dunderR nm) with
    | some none => true
    | some (some (.ref _)) => true
    | _ => false)))
theorem opB_ok (h : opB x nm K = true) : OpB K (He.ga K x) nm (He.ma K (He.ga K x) (PySem.dunder nm)) := by
  obtain ⟨h1, h⟩ := He.ba h
  obtain ⟨h2, h⟩ := He.ba h
  obtain ⟨h3, h4⟩ := He.ba h
  refine ⟨h1, He.eqO_ok h2, h3, ?_⟩
  split at h4
  · rename_i e
    exact ⟨none, e, .inl rfl⟩
  · rename_i g e
    exact ⟨some (.ref g), e, .inr ⟨g, rfl⟩⟩
  · cases h4
def intB (x : Str) (nm : String) : ExB := fun K => (PySem.W.findIn K (.type "int") (PySem.dunder nm)).isSome && ((PySem.W.findIn K (.type "int") (dunderR nm)).isSome && decide (PySem.W.subIn K (.type "int") (.ref (He.ga K x)) = some false))
theorem intB_ok (h : intB x nm K = true) : IntB K (He.ga K x) nm := by
  obtain ⟨h1, h⟩ := He.ba h
  obtain ⟨h2, h3⟩ := He.ba h
  exact ⟨Option.isSome_iff_exists.mp h1, Option.isSome_iff_exists.mp h2, of_decide_eq_true h3⟩
def noIB (x : Str) (nm : String) : ExB := fun K => (match PySem.W.clsIn K (He.ga K x) with
    | some cd => cd.mro == [.ref (He.ga K x), .type "object"]
    | none => false) && (He.eqO (PySem.W.findIn K (.ref (He.ga K x)) (dunderI nm)) (some none) && He.eqO (PySem.W.findIn K (.type "object") (dunderI nm)) (some none))
theorem noIB_ok (h : noIB x nm K = true) : NoI K (He.ga K x) nm := by
  obtain ⟨h1, h⟩ := He.ba h
  obtain ⟨h2, h3⟩ := He.ba h
  refine ⟨?_, He.eqO_ok h2, He.eqO_ok h3⟩
  split at h1
  · rename_i cd e
    exact ⟨cd, e, eq_of_beq h1⟩
  · cases h1
def neB (x : Str) : ExB := fun K => ownB x "__eq__" K && (He.eqO (PySem.W.findIn K (.ref (He.ga K x)) "__ne__") (some (some (.builtin "object.__ne__"))) && decide (PySem.W.mroIn K (He.ga K x) (.type "object") = some true))
theorem neB_ok (h : neB x K = true) : NeM K (He.ga K x) (He.ma K (He.ga K x) "__eq__") := by
  obtain ⟨h1, h⟩ := He.ba h
  obtain ⟨h2, h3⟩ := He.ba h
  exact ⟨ownB_ok h1, He.eqO_ok h2, of_decide_eq_true h3⟩
def noIntB (x : Str) : ExB := fun K => decide (PySem.W.subIn K (.ref (He.ga K x)) (.type "int") = some false)
theorem noIntB_ok (h : noIntB x K = true) : PySem.W.subIn K (.ref (He.ga K x)) (.type "int") = some false := of_decide_eq_true h
end
/-! ### one rule or the other -/
def rOr (r r' : R2) : R2 := fun x y H Q => r x y H Q ∨ r' x y H Q
theorem opOr {X : Cx} {f : Value → Value → Sem Value} {r r' : R2} (h : OpR X f r) (h' : OpR X f r') : OpR X f (rOr r r') := h.or h'
def cOr (r r' : List V → Hp → VK → Prop) : List V → Hp → VK → Prop := fun xs H Q => r xs H Q ∨ r' xs H Q
theorem callOr {X : Cx} {f : Value} {r r' : List V → Hp → VK → Prop} (h : CallR X f r) (h' : CallR X f r') : CallR X f (cOr r r') := h.or h'
def uOr (r r' : V → Hp → VK → Prop) : V → Hp → VK → Prop := fun x H Q => r x H Q ∨ r' x H Q
theorem unOr {X : Cx} {f : Value → Sem Value} {r r' : V → Hp → VK → Prop} (h : UnR X f r) (h' : UnR X f r') : UnR X f (uOr r r') := fun pins s σ H x v Q I rx q => q.elim (h pins s σ H x v Q I rx) (h' pins s σ H x v Q I rx)
theorem pipOr {X : Cx} {op : Operator} {r r' : R2} (h : PIp X op r) (h' : PIp X op r') : PIp X op (rOr r r') := fun pins s σ H x y v u Q I rx ry q => q.elim (h pins s σ H x y v u Q I rx ry) (h' pins s σ H x y v u Q I rx ry)
section
variable {r r' : R2} {c c' : List V → Hp → VK → Prop} {u u' : V → Hp → VK → Prop} {x y : V} {xs : List V} {H : Hp} {Q : VK}
theorem or_l (q : r x y H Q) : rOr r r' x y H Q := .inl q
theorem or_r (q : r' x y H Q) : rOr r r' x y H Q := .inr q
theorem cor_l (q : c xs H Q) : cOr c c' xs H Q := .inl q
theorem cor_r (q : c' xs H Q) : cOr c c' xs H Q := .inr q
theorem uor_l (q : u x H Q) : uOr u u' x H Q := .inl q
theorem uor_r (q : u' x H Q) : uOr u u' x H Q := .inr q
end
/-! ### a list comprehension of one clause -/
section
variable {J : It} {g : TG} {tt : TT} {te : TE} {vs : List Nat} {σ σ0 σ2 : L2.St} {H H1 : Hp} {Q : VK} {D : Addr} {y : V} {R : Hp → Prop} {K : PySem.W.Frag}
def LcK (J : It) (g : TG) (tt : TT) (te : TE) (vs : List Nat) (σ : L2.St) (H1 : Hp) (Q : VK) : Prop := ∀ D, H1 D = none → ∃ W : Nat → Nat → Hp → Prop, (∃ m, W 0 m (upd H1 D (.lst []))) ∧ ∀ i m H, W i m H →
  (J.stop i H ∧ Q (.ref D) H) ∨ (J.go i H ∧ ∃ Nx : Hp → Prop, (∀ H', Nx H' → ∃ m', m' < m ∧ W (i + 1) m' H') ∧ ∀ x H', J.yld i H x H' → g x (wipe σ vs) H' fun σ2 H2 => wipe σ2 vs = wipe σ vs ∧ tt σ2 H2 fun b H3 =>
    if b = true then te σ2 H3 fun y H4 => ∃ acc, H4 D = some (.lst acc) ∧ acc.length < sizeLine ∧ Nx (upd H4 D (.lst (acc ++ [y]))) else Nx H3)
theorem st_lc {wi : TI} (q : wi σ H fun J H1 => LcK J g tt te vs σ H1 Q) : tLc wi g tt te vs σ H Q := q
/-- an item is put behind -/
def AppK (D : Addr) (y : V) (H : Hp) (R : Hp → Prop) : Prop := ∃ acc, H D = some (.lst acc) ∧ acc.length < sizeLine ∧ R (upd H D (.lst (acc ++ [y])))
theorem st_app {acc : List V} (h : H D = some (.lst acc)) (l : acc.length < sizeLine) (q : ∀ H', Md D H H' → H' D = some (.lst (acc ++ [y])) → R H') : AppK D y H R := ⟨acc, h, l, q _ (Md.upd h) upd_same⟩
/-- the block's own names are as they were -/
def WipK (vs : List Nat) (σ2 σ0 : L2.St) (P : Prop) : Prop := wipe σ2 vs = σ0 ∧ P
theorem st_wip {P : Prop} (e : wipe σ2 vs = σ0) (q : P) : WipK vs σ2 σ0 P := ⟨e, q⟩
def LcB (b : Bool) (te : TE) (D : Addr) (σ2 : L2.St) (H : Hp) (R : Hp → Prop) : Prop := if b = true then te σ2 H fun y H4 => AppK D y H4 R else R H
theorem st_lcT (q : te σ2 H fun y H4 => AppK D y H4 R) : LcB true te D σ2 H R := by unfold LcB; rw [if_pos rfl]; exact q
theorem st_lcB {b : Bool} (q : b = true → te σ2 H fun y H4 => AppK D y H4 R) (q' : b = false → R H) : LcB b te D σ2 H R := by
  cases b with
  | true => exact st_lcT (q rfl)
  | false => exact q' rfl
theorem st_yes {Q : Bool → Hp → Prop} (q : Q true H) : tYes σ H Q := q
/-- over a range -/
theorem lc_rngG {lo : Int} {n : Nat} (Pv : Addr → Nat → Hp → Prop) (e : wipe σ vs = σ0) (h0 : ∀ D H2, H1 D = none → Kp H1 H2 → H2 D = some (.lst []) → Pv D 0 H2)
    (hs : ∀ D i H, i < n → Pv D i H → g (.int (lo + i)) σ0 H fun σ2 H2 => WipK vs σ2 σ0 (tt σ2 H2 fun b H3 => LcB b te D σ2 H3 (Pv D (i + 1)))) (hd : ∀ D H, Pv D n H → Q (.ref D) H) : LcK (Itr lo n) g tt te vs σ H1 Q := fun D hD => by
  subst e
  exact lc_range (Pv D) (h0 D _ hD (Kp.new hD) upd_same) (hs D) (hd D)
/-- over a list that the block leaves as it is -/
theorem lc_lstG {a : Addr} {xs : List V} (Pv : Addr → Nat → Hp → Prop) (e : wipe σ vs = σ0) (h0 : ∀ D H2, H1 D = none → Kp H1 H2 → H2 D = some (.lst []) → Pv D 0 H2) (hl : ∀ D i H, i ≤ xs.length → Pv D i H → SqL K H a xs)
    (hs : ∀ D i x H, xs[i]? = some x → Pv D i H → g x σ0 H fun σ2 H2 => WipK vs σ2 σ0 (tt σ2 H2 fun b H3 => LcB b te D σ2 H3 (Pv D (i + 1)))) (hd : ∀ D H, Pv D xs.length H → Q (.ref D) H) : LcK (Itl K a) g tt te vs σ H1 Q := fun D hD => by
  subst e
  exact lc_list (Pv D) (h0 D _ hD (Kp.new hD) upd_same) (hl D) (hs D) (hd D)
end
end G
namespace G
open PySem PySem.Spec PyProof.Rows L2
/-! ### texts: their lengths, f-strings, repr -/
abbrev tx (i : Int) : Str := Str.ofString (toString i)
/-- at most n signs -/
def LB (n : Nat) (z : Str) : Prop := z.length ≤ n
theorem LB.app {n m : Nat} {y z : Str} (h : LB n y) (k : LB m z) : LB (n + m) (y ++ z) := by
  show (y ++ z).length ≤ n + m
  rw [strLen_append]
  exact Nat.add_le_add h k
theorem LB.int {m : Nat} {i : Int} (h : Bd m i) (l : m < 1920) : LB 1921 (tx i) := int_text_len_1921 (Nat.lt_of_le_of_lt (log_of h) l)
theorem LB.lit (z : Str) : LB z.length z := Nat.le_refl _
theorem LB.fits {n : Nat} {z : Str} (h : LB n z) (l : n ≤ 16000000) : z.length ≤ sizeLine := by
  have := sizeLine_eq
  have h' : z.length ≤ n := h
  omega
theorem LB.two {n m : Nat} {y z : Str} (h : LB n y) (k : LB m z) (l : n + m ≤ 16000000) : y.length + z.length ≤ sizeLine := by
  have := sizeLine_eq
  have h' : y.length ≤ n := h
  have k' : z.length ≤ m := k
  omega
section
variable {t : TE} {ts : List TE} {acc y : Str} {σ : L2.St} {H : Hp} {K : Str → Hp → Prop} {Q : VK} {x : V} {KF : PySem.W.Frag} {a : Addr} {i j : Int}
def JsK (x : V) (acc : Str) (ts : List TE) (σ : L2.St) (H : Hp) (K : Str → Hp → Prop) : Prop := ∃ y : Str, x = .str y ∧ (acc ++ y).length ≤ sizeLine ∧ tJs ts (acc ++ y) σ H K
theorem st_jsC (q : t σ H fun x H1 => JsK x acc ts σ H1 K) : tJs (t :: ts) acc σ H K := q
theorem st_jsK (l : (acc ++ y).length ≤ sizeLine) (q : tJs ts (acc ++ y) σ H K) : JsK (.str y) acc ts σ H K := ⟨y, rfl, l, q⟩
theorem st_jsN (q : K acc H) : tJs [] acc σ H K := q
def FmtK (x : V) (H : Hp) (Q : VK) : Prop := (∃ y : Str, x = .str y ∧ y.length ≤ sizeLine ∧ Q (.str y) H) ∨ ∃ i : Int, x = .int i ∧ i.natAbs.log2 < 1920 ∧ Q (.str (toString i)) H
theorem st_fmt (q : t σ H fun x H1 => FmtK x H1 Q) : tFmt t σ H Q := q
theorem fmt_i {m : Nat} (b : Bd m i) (l : m < 1920) (q : Q (.str (tx i)) H) : FmtK (.int i) H Q := .inr ⟨i, rfl, Nat.lt_of_le_of_lt (log_of b) l, q⟩
theorem fmt_s (l : y.length ≤ sizeLine) (q : Q (.str y) H) : FmtK (.str y) H Q := .inl ⟨y, rfl, l, q⟩
/-- str(i) -/
def StrIK : List V → Hp → VK → Prop := fun xs H Q => ∃ i, xs = [.int i] ∧ i.natAbs.log2 < 1920 ∧ Q (.str (toString i)) H
theorem str_i {m : Nat} (b : Bd m i) (l : m < 1920) (q : Q (.str (tx i)) H) : StrIK [.int i] H Q := ⟨i, rfl, Nat.lt_of_le_of_lt (log_of b) l, q⟩
theorem call_strG {X : Cx} : CallR X (.type "str") StrIK := call_str_int
/-! repr -/
theorem empty_app (z : Str) : Str.empty ++ z = z := by
  have e : (Str.empty ++ z) = z := by
    first
      | rfl
      | simp
      | (show Str.append Str.empty z = z; unfold Str.append Str.empty; simp)
  exact e
theorem shown_t2 {m n : Nat} (b1 : Bd m i) (l1 : m < 1920) (b2 : Bd n j) (l2 : n < 1920) : (PyData.shown (.tuple [.int i, .int j])).length ≤ 4000 := by
  have h1 : (tx i).length ≤ 1921 := LB.int b1 l1
  have h2 : (tx j).length ≤ 1921 := LB.int b2 l2
  have e : PyData.shown (.tuple [.int i, .int j]) = ("(" : Str) ++ (tx i ++ (", " : Str) ++ tx j) ++ (")" : Str) := by
    simp only [PyData.shown_tuple, PyData.shownAll_cons, PyData.shownAll_nil, PyData.shown_int]
    rfl
  rw [e]
  simp only [strLen_append]
  have : ("(" : Str).length = 1 := by decide
  have : (", " : Str).length = 2 := by decide
  have : (")" : Str).length = 1 := by decide
  omega
theorem repr_t2 {m n : Nat} (h : SqT KF H a [.int i, .int j]) (b1 : Bd m i) (l1 : m < 1920) (b2 : Bd n j) (l2 : n < 1920) (q : Q (.str (PyData.shown (.tuple [.int i, .int j]))) H) : rReprG KF [.ref a] H Q :=
  ⟨.ref a, .tuple [.int i, .int j], rfl, .tup h (.cons (.int _) (.cons (.int _) .nil)), by simp [PyData.showable, PyData.showableAll, Nat.lt_of_le_of_lt (log_of b1) l1, Nat.lt_of_le_of_lt (log_of b2) l2], by rfl,
    Nat.le_trans (shown_t2 b1 l1 b2 l2) (by rw [sizeLine_eq]; decide), by simp [PyData.depth, PyData.depthAll], q⟩
theorem st_glst {m : Nat} {g : TGs} {xs : List V} {n : L2.St → Hp → Prop} (h : SqL KF H a xs) (l : xs.length = m) (q : g xs σ H n) : gLst KF m g (.ref a) σ H n := ⟨a, xs, rfl, h, l, q⟩
end
end G
namespace G
open PySem PySem.Spec PyProof.Rows L2
section
variable {σ : L2.St} {H : Hp} {x : V}
/-- name op= e -/
theorem st_aug {i : Nat} {ti : TIp} {D : Ends} {te : TE} (h : σ[i]? = some (some x)) (q : te σ H fun y H1 => ti x y H1 fun z H2 => gName i z σ H2 D.nx) : tAug i te ti D σ H := ⟨x, h, q⟩
end
end G
namespace G
open PySem PySem.Spec PyProof.Rows L2
/-! ### the head's facts over the part that some names of the module reach -/
/-- new addresses: those whose bit is not set yet -/
def addB {T : Type} : List Addr → Nat → List Addr → (Nat → List Addr → T) → T
  | [], m, acc, k => k m acc
  | b :: r, m, acc, k => match Nat.beq (Nat.land (Nat.shiftRight m b) 1) 1 with
    | true => addB r m acc k
    | false => HandSHeadRun.frNat (Nat.lor m (Nat.shiftLeft 1 b)) fun m' => HandSHeadRun.frNat b fun b' => addB r m' (b' :: acc) k
def reachB {T : Type} (g : Addr → Option Obj) : List Addr → Nat → List Addr → (Nat → List Addr → T) → T
  | [], m, acc, k => k m acc
  | a :: r, m, acc, k => match g a with
    | some o => addB (He.refsD o) m acc fun m' acc' => reachB g r m' acc' k
    | none => reachB g r m acc k
/-- n levels, from a row of addresses on -/
def levelsB {T : Type} (g : Addr → Option Obj) : Nat → List Addr → Nat → List Addr → (List Addr → T) → T
  | 0, _, _, all, k => k all
  | n + 1, fr, m, all, k => reachB g fr m [] fun m' new => levelsB g n new m' (new ++ all) k
def namedB (g : Addr → Option Obj) (xs : List Str) : List Addr := xs.filterMap fun x => match PySem.W.nsIn (He.frG g [mainGlobals]) mainGlobals x with
  | some (some (.ref a)) => some a
  | _ => none
/-- what these names reach, but nothing by the module's own dict -/
def asB {T : Type} (g : Addr → Option Obj) (xs : List Str) (n : Nat) (k : List Addr → T) : T := addB (namedB g xs) (Nat.lor (Nat.shiftLeft 1 mainGlobals) (Nat.lor (Nat.shiftLeft 1 builtinsNs) (Nat.shiftLeft 1 cStatics))) [] fun m new =>
  levelsB g n new m (new ++ [mainGlobals, builtinsNs, cStatics]) k
/-- without the tables of code objects -/
def isTab (o : Obj) : Bool := match o.cls, o.data with
  | .none, .fields _ => true
  | _, _ => false
def noTab (g : Addr → Option Obj) : Addr → Option Obj := fun a => match g a with
  | some o => (match isTab o with
    | true => none
    | false => some o)
  | none => none
theorem noTab_of {g : Addr → Option Obj} {a : Addr} {o : Obj} (h : noTab g a = some o) : g a = some o := by
  unfold noTab at h
  split at h
  · rename_i o' e
    split at h
    · cases h
    · rw [e]
      exact h
  · cases h
def obsNG (xs : List Str) (n : Nat) (ex : List ExB) (fn : List He5.DefA) (g : Addr → Option Obj) : He.AlD := obsX ex fn (He.frG (noTab g) (asB g xs n fun as => as))
def hookN (xs : List Str) (n : Nat) (ex : List ExB) (fn : List He5.DefA) : PySem.W.Hook where
  α := He.AlD
  obs := fun s => obsNG xs n ex fn s.heap.get?
  val := fun _ => He5.valA fn
  says := fun _ h => ∃ K : PySem.W.Frag, K.In h ∧ SaysX ex fn K
  of := fun _ _ e => ⟨_, fun b o q => noTab_of (He.frG_at _ q), e⟩
  keeps := fun _ _ _ ⟨K, hK, c⟩ k => ⟨K, PySem.W.Frag.In.keeps hK k, c⟩
theorem obsNG_eq {xs : List Str} {n : Nat} {ex : List ExB} {fn : List He5.DefA} {g : Addr → Option Obj} {s : Shared} (h : ∀ a, g a = s.heap.get? a) : obsNG xs n ex fn g = (hookN xs n ex fn).obs s := by
  have e : g = s.heap.get? := funext h
  rw [e] <;> rfl
/-- three looks at one run -/
theorem map3 {S A B C : Type} {o : Option S} {f : S → A} {g : S → B} {k : S → C} {a : A} {b : B} {c : C} (h1 : o.map f = some a) (h2 : o.map g = some b) (h3 : o.map k = some c) : o.map (fun s => (f s, g s, k s)) = some (a, b, c) := by
  cases o with
  | none => cases h1
  | some s =>
    cases (show f s = a from Option.some.inj h1)
    cases (show g s = b from Option.some.inj h2)
    cases (show k s = c from Option.some.inj h3)
    rfl
end G
namespace G
open PySem PySem.Spec PySem.Calls PyProof.Rows L2
/-! ### rules for an object of any class that has the def -/
section
variable {X : Cx} {CX : CXT} {k : Nat} {f g C : Addr} {fd : FuncData} {ps : List Str} {sp : Sp} {dvs : List V} {ds : List Value} {E : XK} {x m : Str} {p pos apos : Pos} {e o : Expr} {es : List Expr} {ta : TE} {t : TA} {pins : List (Addr × Obj)} {σ : L2.St} {H : Hp} {s : Shared} {Q : VK} {pl : Sem Bool}
def RecvP (K : PySem.W.Frag) (m : Str) (f : Addr) (x : V) (H : Hp) (R : Prop) : Prop := ∃ a C dx fs, x = .ref a ∧ H a = some (.ins C dx fs) ∧ Cls K C ∧ Meth K C m f ∧ fs.lookup m = none ∧ R
/-- o.m(..) -/
def tMethP (K : PySem.W.Frag) (m : Str) (f : Addr) (sp : Sp) (dvs : List V) (E : XK) (ta : TE) (t : TA) : TE := fun σ H Q => ta σ H fun x H1 => RecvP K m f x H1 (t σ H1 fun vs H2 => sp (x :: (vs ++ dvs)) H2 Q E)
theorem pe_methP (he : PE X o ta) (F : FnG X.prog X.w X.K X.mg X.base CX k f fd ps sp) (hr : RoomG k X.A) (hb : Binds X.K fd ps ds) (hd : Vals dvs ds) (hx : Passes CX X E) (ha : PA X (e :: es) t)
    (hst : starEach (e :: es) X.env = (false, eval e X.env) :: starEach es X.env := by rfl) (hpl : (backTo pos (starEach es X.env)).any (·.1) = false := by rfl) (ht : MethT X o m apos pos (e :: es) [] pl := by rfl) :
    PE X (.Call (.Attribute o m apos) (e :: es) [] pos) (tMethP X.K m f sp dvs E ta t) :=
  ⟨fun pins s σ H _ I h => PySem.W.methodCall_KW (pl := pl) (thn (he.run pins s σ H _ I h) fun u s1 ⟨x, H1, J, rx, a, C, dx, fs, ex, ea, c, hm, l, q⟩ => by
    subst ex
    cases (show u = Value.ref a from rx)
    exact getmeth_ok J ea c hm l (PySem.W.callWith_K (first := [.ref a]) (h₀ := X.base) J.ok.mod.kin hm.kp (thn (ha.run pos pins s1 σ H1 _ J q) fun us _ ⟨vs, _, J2, r, q2⟩ => ⟨J2.kIn, run_fnG (us := .ref a :: us) (vs := .ref a :: vs) F hr hb hd hx J2 (.cons rfl r) q2⟩) hst hpl)) ht⟩
theorem pe_methP0 (he : PE X o ta) (F : FnG X.prog X.w X.K X.mg X.base CX k f fd ps sp) (hr : RoomG k X.A) (hb : Binds X.K fd ps ds) (hd : Vals dvs ds) (hx : Passes CX X E)
    (ht : MethT X o m apos pos [] [] pl := by rfl) : PE X (.Call (.Attribute o m apos) [] [] pos) (tMethP X.K m f sp dvs E ta tNil) :=
  ⟨fun pins s σ H _ I h => PySem.W.methodCall_KW (pl := pl) (thn (he.run pins s σ H _ I h) fun u s1 ⟨x, H1, J, rx, a, C, dx, fs, ex, ea, c, hm, l, q⟩ => by
    subst ex
    cases (show u = Value.ref a from rx)
    exact getmeth_ok J ea c hm l (PySem.W.callWith_K0 (first := [.ref a]) J.kIn hm.kp (run_fnG (us := [.ref a]) (vs := [.ref a]) F hr hb hd hx J (.cons rfl .nil) q))) ht⟩
/-- o.x, a property -/
def PropK (K : PySem.W.Frag) (m : Str) (g : Addr) (x : V) (H : Hp) (R : Prop) : Prop := ∃ a C dx fs p, x = .ref a ∧ H a = some (.ins C dx fs) ∧ Cls K C ∧ PropOf K C m p g ∧ R
def tPropP (K : PySem.W.Frag) (m : Str) (g : Addr) (sp : Sp) (E : XK) (ta : TE) : TE := fun σ H Q => ta σ H fun x H1 => PropK K m g x H1 (sp [x] H1 Q E)
theorem getpropG {a dx : Addr} {fs : List (Str × V)} {b : Bool} {q : Addr} (I : Inv X pins σ H s) (ea : H a = some (.ins C dx fs)) (c : Cls X.K C) (hp : PropOf X.K C m q g)
    (F : FnG X.prog X.w X.K X.mg X.base CX k g fd ps sp) (hr : RoomG (k + 1) X.A) (hb : Binds X.K fd ps []) (hx : Passes CX X.nox E) (h : sp [.ref a] H Q E) :
    wpAny (model X.prog X.w) X.A (getAttr (.ref a) m b) (EP X pins σ Q) X.xe s := by
  obtain ⟨mA, O, _, _, _, _⟩ := ins_get I.hok ea
  obtain ⟨od, J, _⟩ := O.look
  obtain ⟨rest, hrec⟩ := hp.rec_
  have I1 := I.tok (s.toks + 1)
  have hl : ([Value.ref a] ++ []).length = ps.length := by
    rw [← F.len h]
    rfl
  have hc : (PySem.W.clsIn X.K C).isSome = true := by
    obtain ⟨cd, hc, _⟩ := PySem.W.any_some c.hd
    rw [hc]
    rfl
  refine PySem.W.get_bind I.kIn J (PySem.W.plainGet_of (c.get m)).1 (PySem.W.findObj_data hc hp.at_ hp.get hp.tak) (PySem.W.plainGet_of (c.get m)).2 (wpAny_call (PySem.W.prop_get (s := { s with toks := s.toks + 1 }) I.kIn hrec ?_))
  refine codeAny_mono (F.run (us := [.ref a]) (vs := [.ref a]) hr.in1 I1.env0.in1 (hb _ [.ref a] I1.kIn hl) (.cons rfl .nil) h) fun r s' hq => ?_
  match r, hq with
  | .error er, hq => exact False.elim (hx pins σ H { s with toks := s.toks + 1 } er s' (I1.wish _) hq)
  | .ok (.ret u), hq =>
    obtain ⟨v, H', I3, rv, q3⟩ := I1.after hq
    show wpAny _ _ (handedOut u) _ _ _
    rw [PySem.W.handedOut_of (handed_of rv)]
    exact wpAny_pure ⟨v, H', I3, rv, q3⟩
theorem pe_propP (he : PE X e ta) (F : FnG X.prog X.w X.K X.mg X.base CX k g fd ps sp) (hr : RoomG (k + 1) X.A) (hb : Binds X.K fd ps []) (hx : Passes CX X.nox E)
    (hab : attributeBase e m X.env (eval e X.env) = eval e X.env) : PE X (.Attribute e m pos) (tPropP X.K m g sp E ta) := by
  refine ⟨fun pins s σ H Q I h => ?_⟩
  refine attr_of hab (thn (he.run pins s σ H _ I h) fun u s1 ⟨x, H1, I1, rx, a, C, dx, fs, p, ex, ea, c, hp, q⟩ => ?_)
  subst ex
  obtain rfl : u = Value.ref a := rx
  exact getpropG I1 ea c hp F hr hb hx q
/-- x op y, a comparison by the def of x's class -/
def rCmpP (K : PySem.W.Frag) (nm : Str) (g : Addr) (sp : Sp) (E : XK) : R2 := fun x y H Q => ∃ a C dx fs t, x = .ref a ∧ H a = some (.ins C dx fs) ∧ OwnM K C nm g ∧ TyX K H y t ∧ PySem.W.notFirst K C t = true ∧ sp [x, y] H Q E
theorem op_cmpP {op : CmpOp} (hop : ∀ a b, compareOp op a b = richCompare op a b) (F : FnG X.prog X.w X.K X.mg X.base CX k g fd ps sp) (hr : RoomG k X.A) (hb : Binds X.K fd ps []) (hx : Passes CX X E) :
    OpR X (compareOp op) (rCmpP X.K (cmpInfo op).2.1 g sp E) := fun pins s σ H x y v u Q I rx ry ⟨a, C, dx, fs, t, ex, ha, hs, ty, hn, q⟩ =>
  op_cmpO (C := C) hop hs F hr hb hx pins s σ H x y v u Q I rx ry ⟨a, dx, fs, t, ex, ha, ty, hn, q⟩
/-- x != y by x's own __eq__ -/
def rNeP (K : PySem.W.Frag) (g : Addr) (sp : Sp) (E : XK) : R2 := fun x y H Q => ∃ a C dx fs t, x = .ref a ∧ H a = some (.ins C dx fs) ∧ NeM K C g ∧ TyX K H y t ∧ PySem.W.notFirst K C t = true ∧ sp [x, y] H (fun v H' => ∃ b : Bool, v = .bl b ∧ Q (.bl (!b)) H') E
theorem op_neP (F : FnG X.prog X.w X.K X.mg X.base CX k g fd ps sp) (hr : RoomG (k + 1) X.A) (hb : Binds X.K fd ps []) (hx : Passes CX X E) : OpR X (fun v u => compareOp .NotEq v u) (rNeP X.K g sp E) := fun pins s σ H x y v u Q I rx ry ⟨a, C, dx, fs, t, ex, ha, hs, ty, hn, q⟩ =>
  op_neO (C := C) hs F hr hb hx pins s σ H x y v u Q I rx ry ⟨a, dx, fs, t, ex, ha, ty, hn, q⟩
end
section
variable {K : PySem.W.Frag} {m : Str} {f g : Addr} {x : V} {H : Hp} {R : Prop} {sp : Sp} {E : XK} {ta : TE} {tl : TA} {σ : L2.St} {Q : VK}
theorem st_methP (q : ta σ H fun x H1 => RecvP K m f x H1 (tl σ H1 fun vs H2 => sp (x :: vs) H2 Q E)) : tMethP K m f sp [] E ta tl σ H Q := by
  unfold tMethP
  simp only [List.append_nil]
  exact q
theorem st_propP (q : ta σ H fun x H1 => PropK K m g x H1 (sp [x] H1 Q E)) : tPropP K m g sp E ta σ H Q := q
/-- a constant of the class -/
def ConK (K : PySem.W.Frag) (m : Str) (x : V) (H : Hp) (Q : VK) : Prop := ∃ a C dx fs v u, x = .ref a ∧ H a = some (.ins C dx fs) ∧ Cls K C ∧ Con K C m v u ∧ fs.lookup m = none ∧ Q v H
theorem st_con (q : ta σ H fun x H1 => ConK K m x H1 Q) : tCon K ta m σ H Q := q
end
/-! facts: what a class has from the one above it -/
section
variable {K : PySem.W.Frag} {x y m : Str}
def inhB (x y m : Str) : ExB := fun K => Nat.beq (He.ma K (He.ga K x) m) (He.ma K (He.ga K y) m)
theorem inhB_ok (h : inhB x y m K = true) : He.ma K (He.ga K x) m = He.ma K (He.ga K y) m := Nat.eq_of_beq_eq_true h
def inhP (x y m : Str) : ExB := fun K => Nat.beq (prA x m K) (prA y m K)
theorem inhP_ok (h : inhP x y m K = true) : prA x m K = prA y m K := Nat.eq_of_beq_eq_true h
/-- an int of the class -/
def conB (x m : Str) (i : Int) : ExB := fun K => (match PySem.W.findIn K (.ref (He.ga K x)) m with
  | some (some (.int j t)) => decide (i = j) && He.eqO (PySem.W.specialIn K (.int j t) "__get__") (some none)
  | _ => false) && !PySem.W.copiedNames.contains m
theorem conB_ok {i : Int} (h : conB x m i K = true) : ∃ u, Con K (He.ga K x) m (.int i) u := by
  obtain ⟨h1, h2⟩ := He.ba h
  split at h1
  · rename_i j t e
    obtain ⟨h3, h4⟩ := He.ba h1
    have := of_decide_eq_true h3
    subst this
    exact ⟨.int i t, e, ⟨t, rfl⟩, He.eqO_ok h4, by simpa using h2⟩
  · cases h1
end
end G
namespace G
open PySem PySem.Spec PySem.Calls PyProof.Rows L2
/-! ### more rules: ints of the module, ints ahead, data by their texts and as one another -/
section
variable {ex : List ExB} {fn : List He5.DefA} {K : PySem.W.Frag} {mg : Str → Option Value}
def gintB (x : Str) (i : Int) : ExB := fun K => match PySem.W.nsIn K mainGlobals x with
  | some (some (.int j _)) => decide (i = j)
  | _ => false
theorem gint_ok (T : Txt ex fn K mg) (n : Nat) (x : Str) {i : Int} (h : ex[n]? = some (gintB x i)) : ∃ u, mg x = some (.int i u) := by
  have c := T.fact n h
  unfold gintB at c
  split at c
  · rename_i j u e
    have := of_decide_eq_true c
    subst this
    exact ⟨u, T.glo x _ e⟩
  · cases c
end
section
variable {KF : PySem.W.Frag} {H : Hp} {Q : VK} {a d : Addr} {i j : Int} {s z : Str} {b c : Bool}
theorem repr_i {m : Nat} (b1 : Bd m i) (l1 : m < 1920) (q : Q (.str (PyData.shown (.int i))) H) : rReprG KF [.int i] H Q :=
  ⟨.int i, .int i, rfl, .int i, by simp [PyData.showable, Nat.lt_of_le_of_lt (log_of b1) l1], by rfl, by
    rw [PyData.shown_int]
    have h1 : (tx i).length ≤ 1921 := LB.int b1 l1
    exact Nat.le_trans h1 (by rw [sizeLine_eq]; decide), by simp [PyData.depth], q⟩
theorem repr_b (q : Q (.str (PyData.shown (.bool b))) H) : rReprG KF [.bl b] H Q :=
  ⟨.bl b, .bool b, rfl, .bl b, by simp [PyData.showable], by rfl, by cases b <;> (rw [sizeLine_eq]; decide +kernel), by simp [PyData.depth], q⟩
theorem repr_lib {m : Nat} (h : SqL KF H a [.int i, .bl b]) (b1 : Bd m i) (l1 : m < 1920) (q : Q (.str (PyData.shown (.list [.int i, .bool b]))) H) : rReprG KF [.ref a] H Q :=
  ⟨.ref a, .list [.int i, .bool b], rfl, .lst h (.cons (.int _) (.cons (.bl _) .nil)), by simp [PyData.showable, PyData.showableAll, Nat.lt_of_le_of_lt (log_of b1) l1], by rfl, by
    have h1 : (tx i).length ≤ 1921 := LB.int b1 l1
    have h2 : (PyData.shown (.bool b)).length ≤ 5 := by cases b <;> decide +kernel
    have e : PyData.shown (.list [.int i, .bool b]) = ("[" : Str) ++ (tx i ++ (", " : Str) ++ PyData.shown (.bool b)) ++ ("]" : Str) := by
      simp only [PyData.shown_list, PyData.shownAll_cons, PyData.shownAll_nil, PyData.shown_int]
      rfl
    rw [e, sizeLine_eq]
    simp only [strLen_append]
    have : ("[" : Str).length = 1 := by decide
    have : (", " : Str).length = 2 := by decide
    have : ("]" : Str).length = 1 := by decide
    omega, by simp [PyData.depth, PyData.depthAll], q⟩
theorem eq_l4b {i0 i1 i2 i3 j0 j1 j2 j3 : Bool} (h1 : SqL KF H a [.bl i0, .bl i1, .bl i2, .bl i3]) (h2 : SqL KF H d [.bl j0, .bl j1, .bl j2, .bl j3]) (q : Q (.bl (decide (i0 = j0 ∧ i1 = j1 ∧ i2 = j2 ∧ i3 = j3))) H) : rEqG KF (.ref a) (.ref d) H Q :=
  .inr ⟨_, _, .lst h1 (.cons (.bl _) (.cons (.bl _) (.cons (.bl _) (.cons (.bl _) .nil)))), .lst h2 (.cons (.bl _) (.cons (.bl _) (.cons (.bl _) (.cons (.bl _) .nil)))), by rfl, by rfl, by
    have e : PyData.eqv (.list [.bool i0, .bool i1, .bool i2, .bool i3]) (.list [.bool j0, .bool j1, .bool j2, .bool j3]) = decide (i0 = j0 ∧ i1 = j1 ∧ i2 = j2 ∧ i3 = j3) := by simp [PyData.eqv, PyData.eqvAll, Bool.beq_eq_decide_eq, Bool.decide_and, Bool.and_assoc]
    rw [e]
    exact q⟩
theorem eqv_tsi : PyData.eqv (.tuple [.str s, .int i]) (.tuple [.str z, .int j]) = decide (s = z ∧ i = j) := by simp [PyData.eqv, PyData.eqvAll, Bool.beq_eq_decide_eq]
theorem shp_si (k : (PyData.str s).canLay0 = true) : SeqAt.shaped (.tuple [.str s, .int i]) = true := by
  have k' : PyData.strOk s = true := k
  simp [SeqAt.shaped, PyData.canLay0, PyData.canLayAll0, PyData.depth, PyData.depthAll, k']
theorem eq_tsi (k1 : (PyData.str s).canLay0 = true) (k2 : (PyData.str z).canLay0 = true) (h1 : SqT KF H a [.str s, .int i]) (h2 : SqT KF H d [.str z, .int j]) (q : Q (.bl (decide (s = z ∧ i = j))) H) : rEqG KF (.ref a) (.ref d) H Q :=
  eq_dd (.tup h1 (.cons (.str _) (.cons (.int _) .nil))) (.tup h2 (.cons (.str _) (.cons (.int _) .nil))) (shp_si k1) (shp_si k2) (by rw [eqv_tsi]; exact q)
theorem ne_tsi (k1 : (PyData.str s).canLay0 = true) (k2 : (PyData.str z).canLay0 = true) (h1 : SqT KF H a [.str s, .int i]) (h2 : SqT KF H d [.str z, .int j]) (q : Q (.bl (!decide (s = z ∧ i = j))) H) : rNeG KF (.ref a) (.ref d) H Q :=
  ne_dd (.tup h1 (.cons (.str _) (.cons (.int _) .nil))) (.tup h2 (.cons (.str _) (.cons (.int _) .nil))) (shp_si k1) (shp_si k2) (by rw [eqv_tsi]; exact q)
theorem ne_l0 (h1 : SqL KF H a []) (h2 : SqL KF H d []) (q : Q (.bl false) H) : rNeG KF (.ref a) (.ref d) H Q :=
  ne_dd (.lst h1 .nil) (.lst h2 .nil) (by rfl) (by rfl) (by
    have e : PyData.eqv (.list []) (.list []) = true := by rfl
    rw [e]
    exact q)
end
end G
namespace G
open PySem PySem.Spec PyProof.Rows L2
/-! ### one list changes, over a row of steps -/
section
variable {p : Addr} {H H1 H2 H' : Hp}
def MdT (p : Addr) (H H1 H' : Hp) : Prop := Md p H H1 → Md p H H'
theorem mdt_go (m : Md p H H1) (r : MdT p H H1 H') : Md p H H' := r m
theorem mdt_z : MdT p H H' H' := id
theorem mdt_k (k : Kp H1 H2) (r : MdT p H H2 H') : MdT p H H1 H' := fun m => r (m.kp_r k)
theorem mdt_m (k : Md p H1 H2) (r : MdT p H H2 H') : MdT p H H1 H' := fun m => r (m.trans k)
theorem mdt_s {xs : List V} (h : H p = some (.lst xs)) : Md p H H := Md.of_kp h Kp.refl
end
section
variable {X : Cx} {CX : CXT} {k : Nat} {g : Addr} {fd : FuncData} {ps : List Str} {sp : Sp} {E : XK}
theorem op_eqQ (F : FnG X.prog X.w X.K X.mg X.base CX k g fd ps sp) (hr : RoomG k X.A) (hb : Binds X.K fd ps []) (hx : Passes CX X E) : OpR X (compareOp .Eq) (rCmpP X.K (cmpInfo .Eq).2.1 g sp E) := op_cmpP (fun _ _ => rfl) F hr hb hx
theorem op_neQ (F : FnG X.prog X.w X.K X.mg X.base CX k g fd ps sp) (hr : RoomG (k + 1) X.A) (hb : Binds X.K fd ps []) (hx : Passes CX X E) : OpR X (compareOp .NotEq) (rNeP X.K g sp E) := op_neP F hr hb hx
theorem op_eqR {K : PySem.W.Frag} (hK : X.K = K) (F : FnG X.prog X.w K X.mg X.base CX k g fd ps sp) (hr : RoomG k X.A) (hb : Binds K fd ps []) (hx : Passes CX X E) : OpR X (compareOp .Eq) (rCmpP K (cmpInfo .Eq).2.1 g sp E) := by
  subst hK
  exact op_eqQ F hr hb hx
theorem op_neR {K : PySem.W.Frag} (hK : X.K = K) (F : FnG X.prog X.w K X.mg X.base CX k g fd ps sp) (hr : RoomG (k + 1) X.A) (hb : Binds K fd ps []) (hx : Passes CX X E) : OpR X (compareOp .NotEq) (rNeP K g sp E) := by
  subst hK
  exact op_neQ F hr hb hx
end
theorem st_lcF {te : TE} {D : Addr} {σ2 : L2.St} {H : Hp} {R : Hp → Prop} (q : R H) : LcB false te D σ2 H R := by unfold LcB; rw [if_neg Bool.false_ne_true]; exact q
end G
namespace G
open PySem PySem.Spec PySem.Calls PyProof.Rows L2
/-! ### o.m(..), where the attribute m holds an object whose class has __call__ -/
section
variable {M : Model} {A : Around} {E : Value → Shared → Prop} {s : Shared} {K : PySem.W.Frag} {env : Env} {pos : Pos} {b C : Addr} {Q : Value → Shared → Prop}
/-- an own object stands there, as it is now -/
def Stand (K : PySem.W.Frag) (b C : Addr) (h : Heap) : Prop := K.In h ∧ ∃ (ox : Obj) (od : Option Obj), ox.data = .plain ∧ PySem.W.InstAt h b ox C od
theorem keeperB {h : Heap} (z : Stand K b C h) : PySem.W.Looks M h (keeperOf (.ref b)) .caller := let ⟨_, _, _, hd, I⟩ := z; PySem.W.kco_keeper I hd
theorem callWithB {es : List (Bool × Sem Value)} (np : (es.any (·.1) || ([] : List (Option Str × Sem Value)).any (·.1.isNone)) = false)
    (h : wpAny M A (evalArgs (.ref b) true es []) (fun a t => Stand K b C t.heap ∧ wpAny M A (call (.ref b) ([] ++ a.pos) a.kw) Q E t) E s) : wpAny M A (callWith pos (.ref b) [] es []) Q E s := by
  unfold callWith
  refine wpAny_bind (wpAny_holding (wpAny_mono h (fun a t z => ?_) fun _ _ y => y))
  refine wpAny_bind (wpAny_standAt ?_)
  have lk := keeperB (M := M) z.1
  simp only [np]
  refine wpAny_bind (lk.here ?_)
  refine wpAny_bind (wpAny_mono (wpAny_operateT z.2) (fun r u hr => ?_) fun _ _ y => y)
  exact wpAny_bind (wpAny_holding (wpAny_point (wpAny_pure hr)))
end
section
variable {X : Cx} {CX : CXT} {k : Nat} {g : Addr} {fd : FuncData} {ps : List Str} {sp : Sp} {dvs : List V} {ds : List Value} {E : XK} {m : Str} {p pos apos : Pos} {e o : Expr} {es : List Expr} {ta : TE} {t : TA} {pl : Sem Bool}
/-- the attribute's object, and that it can be called -/
def AttK (K : PySem.W.Frag) (m : Str) (g : Addr) (x : V) (H : Hp) (R : V → (Hp → Prop) → Prop) : Prop := ∃ a C dx fs b D, x = .ref a ∧ H a = some (.ins C dx fs) ∧ Cls K C ∧ NoAttr K C m ∧ fs.lookup m = some (.ref b) ∧ OwnM K D "__call__" g ∧ PySem.W.fnIn K g = true ∧
  R (.ref b) fun H2 => ∃ dy gs, H2 b = some (.ins D dy gs)
def tCallF (K : PySem.W.Frag) (m : Str) (g : Addr) (sp : Sp) (dvs : List V) (E : XK) (ta : TE) (t : TA) : TE := fun σ H Q => ta σ H fun x H1 => AttK K m g x H1 fun y st => t σ H1 fun vs H2 => st H2 ∧ sp (y :: (vs ++ dvs)) H2 Q E
theorem pe_callF (he : PE X o ta) (F : FnG X.prog X.w X.K X.mg X.base CX k g fd ps sp) (hr : RoomG k X.A) (hb : Binds X.K fd ps ds) (hd : Vals dvs ds) (hx : Passes CX X E) (ha : PA X (e :: es) t)
    (hst : starEach (e :: es) X.env = (false, eval e X.env) :: starEach es X.env := by rfl) (hpl : (backTo pos (starEach es X.env)).any (·.1) = false := by rfl) (ht : MethT X o m apos pos (e :: es) [] pl := by rfl) :
    PE X (.Call (.Attribute o m apos) (e :: es) [] pos) (tCallF X.K m g sp dvs E ta t) := by
  refine ⟨fun pins s σ H Q I h => PySem.W.methodCall_KW (pl := pl) (thn (he.run pins s σ H _ I h) fun u s1 ⟨x, H1, J, rx, a, C, dx, fs, b, D, ex, ea, c, na, l, ow, hfn, q⟩ => ?_) ht⟩
  subst ex
  cases (show u = Value.ref a from rx)
  obtain ⟨ox, od, _, I0⟩ := inst_of J ea
  refine PySem.W.method_usual J.kIn I0 (PySem.W.plainGet_of (c.get m)).1 (PySem.W.plainGet_of (c.get m)).2 na (by rfl) (getattr_ok J ea c na l fun u s2 J2 ru => ?_)
  cases (show u = Value.ref b from ru)
  have ar := thn (ha.run pos pins s2 σ H1 _ J2 q) (Q' := fun us s3 => Stand X.K b D s3.heap ∧ wpAny (model X.prog X.w) X.A (call (.ref b) us) (EP X pins σ Q) X.xe s3) fun us s3 ⟨vs, H2, J3, r, ⟨dy, gs, eb⟩, q2⟩ => by
    obtain ⟨oy, oe, hd', I3⟩ := inst_of J3 eb
    refine ⟨⟨J3.kIn, oy, oe, hd', I3⟩, wpAny_call (PySem.W.kco_code J3.kIn I3 hd' ow.at_ ow.fn hfn ?_)⟩
    have rv : Vals (V.ref b :: vs) (Value.ref b :: us) := .cons rfl r
    refine codeAny_mono (run_at (args := ⟨.ref b :: us, []⟩) (ws := .ref b :: us ++ ds) (vs := .ref b :: vs ++ dvs) F hr J3.env0 hx J3 (hb _ _ J3.kIn (len_of F hd rv q2)) (rv.append hd) q2) fun r s' hq => ?_
    · match r, hq with
      | .error _, hq => exact hq
      | .ok (.ret _), hq => exact hq
  show wpAny _ _ (callWith pos (.ref b) [] (backTo pos (starEach (e :: es) X.env)) []) _ _ _
  rw [hst] at ar ⊢
  exact callWithB (K := X.K) (C := D) (by show ((false || (backTo pos (starEach es X.env)).any (·.1)) || false) = false; rw [hpl]; rfl) (evalArgs_plain ar)
end
end G
namespace G
open PySem PySem.Spec PyProof.Rows L2 LamX
/-! ### lambdas: made, handed to a def, called there -/
section
variable {X : Cx} {pins : List (Addr × Obj)} {σ : L2.St} {H HZ : Hp} {s s1 : Shared}
/-- a lambda is made: all is kept, its table tells its code object -/
theorem lam_make {c P : Addr} {params : Arguments} {body : Expr} {scope : Scope} {pos : Pos} {E : Value → Shared → Prop} {Q : Value → Shared → Prop} (I : Inv X pins σ H s) (TB : TabB X.base X.mg c P) (hcode : X.env.code = .ref c)
    (hn : NM pos.line pos.col = X.env.qual ++ "<lambda>") (hT : TabP H P) (hdef : defaultsOf params X.env = ([], [])) (hfree : ∀ y ∈ scope.names, y.2 = .free → ∃ c, X.env.cells.lookup y.1 = some c)
    (h : ∀ (f c' : Addr) (pm ctv : Value) (H1 : Hp) (s' : Shared), Inv X pins σ H1 s' → Kp H H1 →
      s'.heap.get? f = some (PySem.W.kla_obj "<lambda>" (X.env.qual ++ "<lambda>") params body scope (cloFrom X.env.cells scope.names []) pm c' ctv) → H1 f = none → f ∉ frs X.stack → H1 c' = some (CodeO c' (X.env.qual ++ "<lambda>")) → Q (.ref f) s') :
    wpAny (model X.prog X.w) X.A (eval (.Lambda params body scope pos) X.env) Q E s := by
  obtain ⟨ps, hP, ht, ha⟩ := hT
  refine PySem.W.kla_eval hdef ?_
  have bP : s.heap.BuiltinsAt X.mg P := TB.bm.keeps I.bk
  have hP' : s.heap.get? P = some { cls := .none, data := .fields ps } := I.hok P _ hP
  have cC := TB.code.keeps I.bk
  have nofr : ∀ f, s.heap.objs.size ≤ f → f ∉ frs X.stack := fun f hf z => by
    rcases List.mem_cons.mp (I.stkSub _ z) with e | e
    · have h1 := I.lt
      rw [← e] at h1
      exact Nat.lt_irrefl _ (Nat.lt_of_lt_of_le h1 hf)
    · exact I.nofs hf e
  cases hc : codeAmong pos ps.toList with
  | some cv =>
    obtain ⟨c', e, hco⟩ := ha pos cv hc
    subst e
    rw [hn] at hco
    refine PySem.W.kla_makeFunctionHit (closure_ok hfree) I.ok.glob (I.mod.glob.keeps I.bk) hcode cC hP' ht hc bP fun ctv h' tk hx hsz => ?_
    exact h _ c' _ ctv H _ (I.kept fun b o e => Heap.get?_push_of_some _ (hx b o e)) Kp.refl (Heap.get?_push_size _ rfl) (I.hok.fresh hsz) (nofr _ hsz) hco
  | none =>
    refine PySem.W.kla_makeFunction (closure_ok hfree) I.ok.glob (I.mod.glob.keeps I.bk) hcode cC hP' ht hc TB.gP bP fun c' ctv h' tk hx hge hlt hrec htb => ?_
    obtain ⟨c2, oc, vs, t, e2, hoc, hd, hv⟩ := hrec
    cases e2
    have hsz : s.heap.objs.size ≤ h'.objs.size := Nat.le_trans hge (Nat.le_of_lt hlt)
    have nC : H c' = none := I.hok.fresh hge
    have nPc : P ≠ c' := ne_of_none hP nC
    have n1 : h'.objs.size ≠ c' := Nat.ne_of_gt hlt
    have n2 : h'.objs.size ≠ P := Nat.ne_of_gt (Nat.lt_of_lt_of_le (Heap.lt_size hP') hsz)
    have J := inv_table (t' := tk) (more := #[rawInt pos.line, rawInt pos.col, .ref c']) (h' := h'.push (PySem.W.kla_obj "<lambda>" (X.env.qual ++ "<lambda>") params body scope (cloFrom X.env.cells scope.names []) ((X.mg "__name__").getD .none) c' ctv)) I hP (fun b o hb e => Heap.get?_push_of_some _ (hx b o hb e)) (Heap.get?_push_of_some _ htb) hge ⟨oc, vs, t, Heap.get?_push_of_some _ hoc, hd, hv⟩
    have far : ∀ b o, H b = some o → nt o = true → upd (upd H P (.tbl (ps ++ #[rawInt pos.line, rawInt pos.col, .ref c']))) c' (CodeO c' (X.env.qual ++ "<lambda>")) b = some o := fun b o e z => by
      rw [upd_ne (ne_of_none e nC), upd_ne (ne_of e hP (fun q => by rw [q] at z; cases z))]
      exact e
    have k : Kp H (upd (upd H P (.tbl (ps ++ #[rawInt pos.line, rawInt pos.col, .ref c']))) c' (CodeO c' (X.env.qual ++ "<lambda>"))) := by
      refine ⟨far, fun b e => ?_, fun P2 t2 => ?_⟩
      · by_cases z : b = c'
        · rw [z]
          exact nC
        · rw [upd_ne z] at e
          by_cases y : b = P
          · rw [y, upd_same] at e
            cases e
          · rw [upd_ne y] at e
            exact e
      · by_cases y : P2 = P
        · subst y
          have eL : (ps ++ #[rawInt pos.line, rawInt pos.col, .ref c']).toList = ps.toList ++ [rawInt pos.line, rawInt pos.col, .ref c'] := by simp
          refine ⟨_, by rw [upd_ne nPc, upd_same], by rw [eL]; exact PySem.TriplesOk_snoc _ _ _ _ ht, fun p' cv hcv => ?_⟩
          rw [eL] at hcv
          rcases NdefX.among_app2 _ ht hcv with z | ⟨z, z1, z2⟩
          · obtain ⟨c0, e1, e2⟩ := ha p' cv z
            exact ⟨c0, e1, far _ _ e2 rfl⟩
          · refine ⟨c', z, ?_⟩
            rw [← z1, ← z2, hn]
            exact upd_same
        · obtain ⟨qs, a1, a2, a3⟩ := t2
          refine ⟨qs, by rw [upd_ne (ne_of_none a1 nC), upd_ne y]; exact a1, a2, fun p' cv hcv => ?_⟩
          obtain ⟨c0, e1, e2⟩ := a3 p' cv hcv
          exact ⟨c0, e1, far _ _ e2 rfl⟩
    refine h _ c' _ ctv _ _ J k (Heap.get?_push_size _ rfl) ?_ (nofr _ hsz) upd_same
    rw [upd_ne n1, upd_ne n2]
    exact I.hok.fresh hsz
/-- a(), in the def that got the lambda; its context: that def's, entered at s -/
theorem pe_actG {CXg : CXT} {Eg : XK} {Ng : List Str} {qg : Str} {sg : Scope} {g f c' : Addr} {cdg pm ctv : Value} {params : Arguments} {body : Expr} {scope : Scope} {k i : Nat} {a : Str} {pn : List (Addr × Obj)} {xe : Value → Shared → Prop} {W : WX} {E : XK} {tb : TE} {p1 p2 : Pos}
    (I : Inv X pins σ H s) (L : LamS X.env.scope scope) (hf : s.heap.get? f = some (PySem.W.kla_obj "<lambda>" (X.env.qual ++ "<lambda>") params body scope (cloFrom X.env.cells scope.names []) pm c' ctv)) (hfn : H f = none) (hfr : f ∉ frs X.stack)
    (hbind : bindArgs (PySem.W.kla_fn "<lambda>" (X.env.qual ++ "<lambda>") params body scope (cloFrom X.env.cells scope.names []) pm (.ref c') ctv) ⟨[], []⟩ = pure [])
    (tk : Takes ((cxOf CXg X.prog X.w X.K X.mg X.base Ng qg sg g cdg X.A X.stack s H Eg).tr pn xe) W) (hW : ∀ cls d σ' H', E cls d H' → W cls d σ' H') (hr : RoomG (k + 1) (X.A.deeper (envOfC qg sg s.heap.objs.size g cdg)))
    (hbody : ∀ (A : Around) (outer : List Env) (s : Shared) (H : Hp), RoomG k (A.deeper (lamEnv X scope s.heap.objs.size f c')) → PE (lamCx X A outer s H E scope f c') body tb)
    (hN : Ng[i]? = some a) (hv : Vis sg a) (hd : (a == ("__debug__" : Str)) = false := by decide) (hcd : (a == ("__classdict__" : Str)) = false := by decide) :
    PE ((cxOf CXg X.prog X.w X.K X.mg X.base Ng qg sg g cdg X.A X.stack s H Eg).tr pn xe) (.Call (.Name a p1) [] [] p2)
      (fun σZ HZ Q => σZ[i]? = some (some (.ref f)) ∧ HZ c' = some (CodeO c' (X.env.qual ++ "<lambda>")) ∧ tb σ HZ Q) := by
  refine ⟨fun pinsZ sZ σZ HZ Q IZ ⟨hs, hc, ht⟩ => ?_⟩
  refine wpAny_Call_Name_kw (thn ((pe_var (pos := p1) (i := i) hN hv hd hcd).run pinsZ sZ σZ HZ (fun v H1 => v = .ref f ∧ H1 = HZ) IZ ⟨.ref f, hs, rfl, rfl⟩) fun u s1 ⟨v, H1, I1, r1, ev, eH⟩ => ?_)
  subst ev eH
  obtain rfl : u = Value.ref f := r1
  have of1 : s1.heap.get? f = some (PySem.W.kla_obj "<lambda>" (X.env.qual ++ "<lambda>") params body scope (cloFrom X.env.cells scope.names []) pm c' ctv) := I1.base.keep f _ hf hfn hfr (fun z => nomatch (show f ∈ ([] : List Addr) from z))
  refine PySem.W.callWith_F0 ⟨_, _, _, _, of1⟩ ?_
  obtain ⟨⟨oc, vs, t, hoc, hdc, hvc⟩, _, _⟩ := I1.hok c' _ hc
  have rc : codeAny (model X.prog X.w) (X.A.deeper (envOfC qg sg s.heap.objs.size g cdg)) (.call (.ref f) ⟨[], []⟩) (CR (L2.CX X.prog X.w) (envOfC qg sg s.heap.objs.size g cdg :: X.stack) X.prog X.w H1 s1 Q E) s1 := by
    refine PySem.W.kla_callFunE hr.rm.depth of1 rfl L.co L.gen rfl ⟨c', oc, vs, t, rfl, hoc, hdc, hvc⟩ ?_
    rw [hbind]
    refine wpAny_pure (wpAny_newFunctionEnv (fun y hy => (L.own y hy).2) (fun y hy => absurd hy (by simp)) (fun h₁ hns hsb => ⟨I1.nolimit.fresh _ hsb, ?_⟩) L.kind)
    have kp : ∀ b o, s1.heap.get? b = some o → h₁.get? b = some o := fun b o e => hsb.extBut b o (Nat.ne_of_lt (Heap.lt_size e)) (Heap.get?_push_of_some _ e)
    have J := lam_start2 (E := E) (f := f) (c' := c') (tk := s1.toks + ([] : List (Str × Value)).length) I L I1.env0 hr.rm.hd I1.base hns kp
    refine PySem.W.kla_codeExpr (wpAny_mono ((hbody _ _ s1 H1 (hr.deeper _)).run [] _ _ H1 Q J ht) (fun v s' ⟨w', H', J', rv, q⟩ => ?_) fun e s' hq => hq)
    exact ⟨w', H', J'.os, J'.bare, J'.base, J'.hok, rv, q⟩
  refine wpAny_call (codeAny_mono rc fun r s' hq => ?_)
  · have hx : Passes (L2.CX X.prog X.w) ((cxOf CXg X.prog X.w X.K X.mg X.base Ng qg sg g cdg X.A X.stack s H Eg).tr pn xe) E := passes_call tk hW
    match r, hq with
    | .error e, hq => exact hx pinsZ σZ H1 s1 e s' I1 hq
    | .ok (.ret u), hq => exact I1.after hq
end
/-- a def that calls what it got (a): TT: what it makes of the lambda's reading -/
def GivesG (X : Cx) (k : Nat) (Ng : List Str) (x : Str) (sg : Scope) (g : Addr) (cdg : Value) (bg : List Stmt) (a q : Str) (TT : (XK → Hp → VK → Prop) → Hp → VK → Prop) : Prop :=
  ∀ (f c' : Addr) (s : Shared) (H : Hp) (Q : VK) (tl : XK → Hp → VK → Prop), RoomG k (X.A.deeper (envOfC x sg s.heap.objs.size g cdg)) →
    (∀ (W : WX) (pn : List (Addr × Obj)) (xe : Value → Shared → Prop) (E : XK) (p1 p2 : Pos), Takes ((cxOf CX0 X.prog X.w X.K X.mg X.base Ng x sg g cdg X.A X.stack s H E0).tr pn xe) W → (∀ cls d σ' H', E cls d H' → W cls d σ' H') →
      PE ((cxOf CX0 X.prog X.w X.K X.mg X.base Ng x sg g cdg X.A X.stack s H E0).tr pn xe) (.Call (.Name a p1) [] [] p2) (fun σZ HZ Q => σZ[0]? = some (some (.ref f)) ∧ HZ c' = some (CodeO c' q) ∧ tl E HZ Q)) →
    H c' = some (CodeO c' q) → TT tl H Q → ∃ t, PSs (cxOf CX0 X.prog X.w X.K X.mg X.base Ng x sg g cdg X.A X.stack s H E0).nox bg t ∧ t { nx := fun _ H' => Q .non H', rt := Q } (start Ng [.ref f]) H
/-- x(lambda: e) -/
def tLamG (P : Addr) (TT : (XK → Hp → VK → Prop) → Hp → VK → Prop) (t : XK → TE) : TE := fun σ H Q => TabP H P ∧ ∀ H1, Kp H H1 → TT (fun E H' Q' => t E σ H' Q') H1 Q
theorem pe_lamG {X : Cx} {TT : (XK → Hp → VK → Prop) → Hp → VK → Prop} {x a : Str} {g c P : Addr} {k : Nat} {pg : Arguments} {bg : List Stmt} {sg : Scope} {dV kV doc pm cdv ct oc : Value} {an od : Option Addr} {osl : Array (Option Value)} {Ng : List Str}
    {params : Arguments} {body : Expr} {scope : Scope} {t : XK → TE} {p lpos pos : Pos} (hg : Gl X x) (hm : X.mg x = some (.ref g)) (hk : PySem.W.keepIn X.K (.ref g) = true)
    (lk : X.K.lookup g = some ⟨oc, od, .func (PySem.W.fnOf x x pg bg sg dV kV doc pm an cdv ct), osl⟩) (hcg : PySem.W.codeIn X.K cdv x = true) (hb : L2.Binds X.K (PySem.W.fnOf x x pg bg sg dV kV doc pm an cdv ct) [a] []) (Sg : FnScope Ng [a] sg) (hNg : Ng[0]? = some a) (hva : Vis sg a)
    (hG : GivesG X (k + 1) Ng x sg g cdv bg a (X.env.qual ++ "<lambda>") TT)
    (TB : TabB X.base X.mg c P) (hcode : X.env.code = .ref c) (hn : NM lpos.line lpos.col = X.env.qual ++ "<lambda>") (hr : RoomG (k + 2) X.A) (L : LamS X.env.scope scope) (hdef : defaultsOf params X.env = ([], []))
    (hbind : ∀ (q : Str) (cl : List (Str × Addr)) (pm cv ctv : Value), bindArgs (PySem.W.kla_fn "<lambda>" q params body scope cl pm cv ctv) ⟨[], []⟩ = pure [])
    (hbody : ∀ (A : Around) (outer : List Env) (s : Shared) (H : Hp) (E : XK) (f c' : Addr), RoomG k (A.deeper (lamEnv X scope s.heap.objs.size f c')) → PE (lamCx X A outer s H E scope f c') body (t E))
    (hdb : (x == ("__debug__" : Str)) = false := by decide) (hd : (a == ("__debug__" : Str)) = false := by decide) (hcd : (a == ("__classdict__" : Str)) = false := by decide) :
    PE X (.Call (.Name x p) [.Lambda params body scope lpos] [] pos) (tLamG P TT t) := by
  refine ⟨fun pins s σ H Q I ⟨hT, h⟩ => ?_⟩
  refine wpAny_Call_Name_kw (ld_glob I hg hm ?_ hdb)
  refine PySem.W.callWith_K (h₀ := X.base) I.ok.mod.kin hk ?_ (by rfl) (by rfl)
  refine Calls.spliced_cons (lam_make I TB hcode hn hT hdef (L.has I.ok) fun f c' pm' ctv H1 s' I1 k1 hf hfn hfr hco => ?_)
  refine Calls.spliced_nil ⟨I1.kIn, ?_⟩
  have rc : codeAny (model X.prog X.w) X.A (.call (.ref g) ⟨[.ref f], []⟩) (CR CX0 X.stack X.prog X.w H1 s' Q E0) s' := by
    refine run_ofS (N := Ng) (ps := [a]) (us := [.ref f]) (vs := [.ref f]) lk hcg Sg hr.rm I1.env0 (hb s' [.ref f] I1.kIn rfl) (.cons rfl .nil) rfl fun _ => ?_
    have hr' := hr.deeper (envOfC x sg s'.heap.objs.size g cdv)
    obtain ⟨t', ht', hq'⟩ := hG f c' s' H1 Q (fun E H' Q' => t E σ H' Q') hr' (fun W pn xe E p1 p2 tk hW => pe_actG (i := 0) I1 L hf hfn hfr (hbind _ _ _ _ _) tk hW hr' (fun A outer s H hr2 => hbody A outer s H E f c' hr2) hNg hva hd hcd) hco (h H1 k1)
    exact ⟨t', ht'.nox, hq'⟩
  refine wpAny_call (codeAny_mono rc fun r s2 hq => ?_)
  · match r, hq with
    | .error e, hq => exact (show False from hq).elim
    | .ok (.ret u), hq => exact I1.after hq
end G
namespace G
open PySem PySem.Spec PyProof.Rows L2 LamX
/-- pe_lamG, the def told by its facts -/
theorem pe_lamF {X : Cx} {TT : (XK → Hp → VK → Prop) → Hp → VK → Prop} {x a : Str} {g c P : Addr} {k : Nat} {st : Stmt} {fd : FuncData} {Ng : List Str} {params : Arguments} {body : Expr} {scope : Scope} {t : XK → TE} {p lpos pos : Pos}
    (F : L2.FunD X.K x x (defArgs st) (defBody st) (defScope st) [] [] g fd) (hg : Gl X x) (hm : X.mg x = some (.ref g)) (hb : L2.Binds X.K fd [a] []) (Sg : FnScope Ng [a] (defScope st)) (hNg : Ng[0]? = some a) (hva : Vis (defScope st) a)
    (hG : ∀ cdv, GivesG X (k + 1) Ng x (defScope st) g cdv (defBody st) a (X.env.qual ++ "<lambda>") TT)
    (TB : TabB X.base X.mg c P) (hcode : X.env.code = .ref c) (hn : NM lpos.line lpos.col = X.env.qual ++ "<lambda>") (hr : RoomG (k + 2) X.A) (L : LamS X.env.scope scope) (hdef : defaultsOf params X.env = ([], []))
    (hbind : ∀ (q : Str) (cl : List (Str × Addr)) (pm cv ctv : Value), bindArgs (PySem.W.kla_fn "<lambda>" q params body scope cl pm cv ctv) ⟨[], []⟩ = pure [])
    (hbody : ∀ (A : Around) (outer : List Env) (s : Shared) (H : Hp) (E : XK) (f c' : Addr), RoomG k (A.deeper (lamEnv X scope s.heap.objs.size f c')) → PE (lamCx X A outer s H E scope f c') body (t E))
    (hdb : (x == ("__debug__" : Str)) = false := by decide) (hd : (a == ("__debug__" : Str)) = false := by decide) (hcd : (a == ("__classdict__" : Str)) = false := by decide) :
    PE X (.Call (.Name x p) [.Lambda params body scope lpos] [] pos) (tLamG P TT t) := by
  have kp := F.kp
  obtain ⟨oc, od, dV, kV, doc, pm, an, cdv, ct, osl, rfl, lk, hcd2, _, _⟩ := F.ex
  exact pe_lamG hg hm kp lk hcd2 hb Sg hNg hva (hG cdv) TB hcode hn hr L hdef hbind hbody hdb hd hcd
end G
namespace G
open PySem PySem.Spec PyProof.Rows L2
/-! ### try with several clauses, named or not; exceptions of own classes without an own __init__ -/
/-- a clause: its class, the slot of its name, its suite -/
abbrev Cl := Value × Option Nat × (Addr → Value → Option Addr → TS)
def clRun (i : Option Nat) (ts : Addr → Value → Option Addr → TS) (a : Addr) (cls : Value) (d : Option Addr) (D : Ends) (σ : L2.St) (H : Hp) : Prop := match i with
  | none => ts a cls d D σ H
  | some i => ts a cls d { nx := fun σ' H' => D.nx (σ'.set i none) H', rt := D.rt, bk := fun σ' H' => D.bk (σ'.set i none) H', ct := fun σ' H' => D.ct (σ'.set i none) H' } (σ.set i (some (.ref a))) H
/-- what the clauses wish of an exception of the body -/
def wCls (K : PySem.W.Frag) (n : Nat) (Wout : WX) (D : Ends) : List Cl → WX
  | [] => Wout
  | (c, i, ts) :: r => fun cls d σ H => ∃ b, PySem.W.exmOne K cls c = some b ∧ (b = true → ∀ a, H a = none → σ.length = n → clRun i ts a cls d D σ H) ∧ (b = false → wCls K n Wout D r cls d σ H)
theorem exm_none {K : PySem.W.Frag} {cls : Value} : PySem.W.exmOne K cls .none = none := rfl
inductive ClsOk (X : Cx) : List ExceptHandler → List Cl → Prop
  | nil : ClsOk X [] []
  /-- the clauses from here on are not asked -/
  | stop {hds : List ExceptHandler} : ClsOk X hds [(.none, none, fun _ _ _ _ _ _ => False)]
  | one {x : Str} {c : Value} {ts : Addr → Value → Option Addr → TS} {b₀ : Stmt} {suite : List Stmt} {np pos' : Pos} {hds : List ExceptHandler} {l : List Cl} (hc : Names X x c)
      (hsu : ∀ (a : Addr) (oe : Obj) (cls : Value) (d : Option Addr) (pn : List (Addr × Obj)), Zc cls d oe → (∃ vs, oe.data = .fields vs) → PSs (X.suite a ((a, oe) :: pn)) (b₀ :: suite) (ts a cls d)) (r : ClsOk X hds l) :
      ClsOk X (.ExceptHandler (some (.Name x np)) none (b₀ :: suite) pos' :: hds) ((c, none, ts) :: l)
  | as {x n : Str} {c : Value} {i : Nat} {ts : Addr → Value → Option Addr → TS} {b₀ : Stmt} {suite : List Stmt} {np pos' : Pos} {hds : List ExceptHandler} {l : List Cl} (hc : Names X x c) (hi : X.N[i]? = some n) (hln : X.env.kindOf n = some .local)
      (hsu : ∀ (a : Addr) (oe : Obj) (cls : Value) (d : Option Addr) (pn : List (Addr × Obj)), Zc cls d oe → (∃ vs, oe.data = .fields vs) → PSs (X.suite a ((a, oe) :: pn)) (b₀ :: suite) (ts a cls d)) (r : ClsOk X hds l) :
      ClsOk X (.ExceptHandler (some (.Name x np)) (some n) (b₀ :: suite) pos' :: hds) ((c, some i, ts) :: l)
section
variable {X : Cx} {body : List Stmt} {h₀ : ExceptHandler} {hds : List ExceptHandler} {l : List Cl} {pos : Pos} {tb : WX → TS} {Wout : WX}
theorem ps_try_g (hs : X.stack = X.env :: X.outer) (hf : X.env.frame = some X.env.locals) (hN : X.N.Nodup) (tk : Takes X Wout)
    (hb : ∀ (W : WX) (pn : List (Addr × Obj)) (xe : Value → Shared → Prop), Takes (X.tr pn xe) W → PassesOwn (model X.prog X.w) X.A X.env xe → PSs (X.tr pn xe) body (tb W))
    (hh : ClsOk X (h₀ :: hds) l) : PS X (.Try body (h₀ :: hds) [] [] pos) (fun D σ H => tb (wCls X.K X.N.length Wout D l) D σ H) := by
  refine ⟨fun pins s σ H D I h => ?_⟩
  have ok := I.ok
  have hfr : X.A.frames = some (X.env :: X.outer) := by rw [ok.frames, hs]
  refine wpAny_Try_except (wpAny_mono ((hb (wCls X.K X.N.length Wout D l) (X.pn ++ pins) (fun e s₁ => wpAny (model X.prog X.w) X.A (noteFrame e X.env) (fun _ s₂ => wpAny (model X.prog X.w) X.A (setFlight e none) (fun _ s₃ =>
    wpAny (model X.prog X.w) X.A (handleBy e X.env (h₀ :: hds)) (SP X pins D) X.xe s₃) X.xe s₂) X.xe s₁) (fun u s' xx => ?_) PassesOwn.looking).run [] s σ H D (I.toTry _) h) (fun f s1 hsp => ?_) (fun e s1 he => he))
  · obtain ⟨a, B, sI, pins', σ', H', cls, d, rfl, J', nb, up, sky, na, os, ag, w⟩ := xx
    have J : Inv X pins σ' H' sI := J'.ofTry ok
    rw [show (X.tr (X.pn ++ pins) _).stack = X.stack from rfl, hs] at sky
    show wpAny (model X.prog X.w) X.A (noteFrame (.ref a) X.env) _ _ _
    refine Sky.land Zc.steady hfr hf sky fun h3 fl3 up3 => ?_
    have J3 : Inv X pins σ' H' { s' with heap := h3 } := J.landed nb fl3.1 (up.trans up3) os ag
    obtain ⟨oe3, vs3, he3, hz3, hd3⟩ := fl3.there
    have nfr : a ∉ frs (X.env :: X.outer) := fun hm => by
      obtain ⟨_, o', e', hnf⟩ := fl3.2.2.1.mem hm
      rw [he3] at e'
      cases e'
      exact hnf _ hd3
    have nL : a ≠ X.env.locals := fun z => nfr (List.mem_filterMap.mpr ⟨X.env, List.mem_cons_self, by rw [hf, z]⟩)
    have nF : a ∉ X.fs := fun hm => by
      obtain ⟨e, he, q⟩ := List.mem_filterMap.mp hm
      exact nfr (List.mem_filterMap.mpr ⟨e, List.mem_cons_of_mem _ he, q⟩)
    have S3 := J3.suite he3 hd3 na nL nF
    have LT : PySem.W.Looks (model X.prog X.w) h3 (typeOf (.ref a)) cls := fun A Q E s k q => wpAny_typeOf_ref (k _ _ he3) (by rw [hz3.1]; exact q)
    -- the class that a clause names
    have test : ∀ {x : Str} {np : Pos} {c : Value} {Q : Value → Shared → Prop} {E : Value → Shared → Prop}, Names X x c → Q c { s' with heap := h3 } → wpAny (model X.prog X.w) (X.A.mark (some (.ref a))) (eval (.Name x np) X.env) Q E { s' with heap := h3 } := fun {x np c Q E} hc q => by
      obtain ⟨hg, hdbg, hm | ⟨hm, hv, hnn⟩⟩ := hc
      · exact ld_glob (X := X.suite a ((a, oe3) :: (X.pn ++ pins))) S3 hg hm q hdbg
      · exact ld_blt (X := X.suite a ((a, oe3) :: (X.pn ++ pins))) S3 hg hm hv q hnn hdbg
    -- the end of a suite
    have ends : ∀ {q : Addr × Obj} {f : Flow} {s6 : Shared}, SP (X.suite a (q :: (X.pn ++ pins))) [] D f s6 → SP X pins D f s6 := fun {q f s6} z => by
      match f, z with
      | .next, ⟨σ6, H6, S6, q6⟩ => exact ⟨_, _, S6.unsuite ok, q6⟩
      | .brk, ⟨σ6, H6, S6, q6⟩ => exact ⟨_, _, S6.unsuite ok, q6⟩
      | .cont, ⟨σ6, H6, S6, q6⟩ => exact ⟨_, _, S6.unsuite ok, q6⟩
      | .ret u, ⟨v6, σ6, H6, S6, r6, q6⟩ => exact ⟨_, _, _, S6.unsuite ok, r6, q6⟩
    have go : ∀ {hds' : List ExceptHandler} {l' : List Cl}, ClsOk X hds' l' → wCls X.K X.N.length Wout D l' cls d σ' H' → wpAny (model X.prog X.w) X.A (handleBy (.ref a) X.env hds') (SP X pins D) X.xe { s' with heap := h3 } := by
      intro hds' l' hk
      induction hk with
      | nil =>
        intro w
        refine wpAny_handleBy_nil ?_
        obtain ⟨k1, k2, k3, oe, vs, T, oT, ts', he, hz, hd, h1, hr⟩ := id fl3
        unfold PySem.passOn
        refine wpAny_bind (wpAny_field he hd h1 ?_)
        rw [if_neg (show ¬ ((Value.ref T == Value.none) = true) from by simp)]
        have fin : wpAny (model X.prog X.w) X.A (setFlight (.ref a) X.env.frame) (fun _ s4 => wpAny (model X.prog X.w) X.A (throw (.ref a) : Sem Flow) (SP X pins D) X.xe s4) X.xe { s' with heap := h3 } := by
          rw [hf]
          exact HandSPX.setFlight_upZ fl3 fun h4 hh4 up4 => wpAny_throw (tk _ _ ⟨a, B, sI, pins, σ', H', cls, d, rfl, J, nb, (up.trans up3).trans up4, .inr (.inr (by rw [hs]; exact hh4)), na, os, ag, w⟩)
        first
          | exact wpAny_bind (wpAny_pure (wpAny_bind fin))
          | exact wpAny_bind fin
      | stop =>
        rintro ⟨b, hb1, _⟩
        rw [exm_none] at hb1
        cases hb1
      | one hc hsu r ih =>
        rintro ⟨b, hb1, hyes, hno⟩
        refine wpAny_handleBy_cons (codeAny_handlers_test ?_) (by intro q; cases q)
        refine test hc ((PySem.W.exm_one (M := model X.prog X.w) J3.kIn LT hb1).here ?_)
        cases b with
        | false => exact ih (hno rfl)
        | true =>
          refine codeAny_handlers_suite (HandSPX.lands_againZ fl3 fun h4 fl4 up4 => ?_)
          have J4 : Inv X pins σ' H' { s' with heap := h4 } := J.landed nb fl4.1 ((up.trans up3).trans up4) os ag
          obtain ⟨oe4, vs4, he4, hz4, hd4⟩ := fl4.there
          exact wpAny_mono ((hsu a oe4 cls d (X.pn ++ pins) hz4 ⟨_, hd4⟩).run [] _ _ H' _ (J4.suite he4 hd4 na nL nF) (hyes rfl a na J4.len)) (fun f s6 z => ends z) (fun _ _ z => False.elim z)
      | @as x n c i ts b₀ suite np pos' hds2 l2 hc hi hln hsu r ih =>
        rintro ⟨b, hb1, hyes, hno⟩
        refine wpAny_handleBy_cons (codeAny_handlers_test ?_) (by intro q; cases q)
        refine test hc ((PySem.W.exm_one (M := model X.prog X.w) J3.kIn LT hb1).here ?_)
        cases b with
        | false => exact ih (hno rfl)
        | true =>
          refine codeAny_handlers_suite_as (HandSPX.lands_againZ fl3 fun h4 fl4 up4 => ?_)
          have J4 : Inv X pins σ' H' { s' with heap := h4 } := J.landed nb fl4.1 ((up.trans up3).trans up4) os ag
          obtain ⟨oe4, vs4, he4, hz4, hd4⟩ := fl4.there
          refine store_ok (X := X.suite a ((a, oe4) :: (X.pn ++ pins))) (v := .ref a) (J4.suite he4 hd4 na nL nF) hN hi (.inl hln) rfl (fun s5 S5 => ?_) (.inr hln)
          refine wpAny_mono ((hsu a oe4 cls d (X.pn ++ pins) hz4 ⟨_, hd4⟩).run [] s5 _ H' _ S5 (hyes rfl a na J4.len)) (fun f s6 hsp => ?_) (fun _ _ z => False.elim z)
          have end_ : ∀ {σ6 : L2.St} {H6 : Hp} {Q : Shared → Prop}, Inv (X.suite a ((a, oe4) :: (X.pn ++ pins))) [] σ6 H6 s6 → (∀ s7, Inv X pins (σ6.set i none) H6 s7 → Q s7) →
              wpAny (model X.prog X.w) X.A (do bindName X.env n .none; unbindBehindTheSuite X.env n pos') (fun _ s7 => Q s7) X.xe s6 := fun {σ6 H6 Q} S6 hq => gone_ok (S6.unsuite ok) hN hi hln hq
          match f, hsp with
          | .next, ⟨σ6, H6, S6, q6⟩ => exact end_ S6 fun s7 J7 => ⟨_, _, J7, q6⟩
          | .brk, ⟨σ6, H6, S6, q6⟩ => exact end_ S6 fun s7 J7 => ⟨_, _, J7, q6⟩
          | .cont, ⟨σ6, H6, S6, q6⟩ => exact end_ S6 fun s7 J7 => ⟨_, _, J7, q6⟩
          | .ret u, ⟨v6, σ6, H6, S6, r6, q6⟩ => exact end_ S6 fun s7 J7 => ⟨_, _, _, J7, r6, q6⟩
    exact go hh w
  · match f, hsp with
    | .next, ⟨σ', H', J', q⟩ => exact wpAny_execs_nil ⟨σ', H', J'.ofTry ok, q⟩
    | .brk, ⟨σ', H', J', q⟩ => exact ⟨σ', H', J'.ofTry ok, q⟩
    | .cont, ⟨σ', H', J', q⟩ => exact ⟨σ', H', J'.ofTry ok, q⟩
    | .ret u, ⟨v, σ', H', J', r, q⟩ => exact ⟨v, σ', H', J'.ofTry ok, r, q⟩
end
theorem takes_no {X : Cx} : Takes X (fun _ _ _ _ => False) := fun _ _ ⟨_, _, _, _, _, _, _, _, _, _, _, _, _, _, _, _, w⟩ => w.elim
/-- C(), an own exception class without an own __init__ -/
theorem pmk_own0 {X : Cx} {C : Addr} {bmB : List Value} {B newId initId : String} {x : Str} {p pos : Pos} (F : ExcBaseFacts B newId initId bmB) (q : PySem.W.excIn X.K C bmB newId = true) (gC : X.mg x = some (.ref C)) (kC : PySem.W.keepIn X.K (.ref C) = true) (r : Raises X (.ref C)) (hg : Gl X x)
    (hdb : (x == ("__debug__" : Str)) = false := by decide) : PMk X (.Call (.Name x p) [] [] pos) (fun _ H Q => Q (.ref C) none H) := by
  intro pins s σ H Q I h
  refine wpAny_Call_Name_kw (ld_glob I hg gC (PySem.W.callWith_K0 I.kIn kC ?_) hdb)
  obtain ⟨bm, N, nm, qn, bs, hdct, sn, sub, ab, col, dd, k0, k1, k2, k3, k5, mN, hC, hN, hni, T⟩ := exc_obj I.kIn q
  exact wpAny_call_exc_subT F T hC hN hni (fun h' e hm => mk_of I hm r h (I.hok.gone hm.new)) (Nat.zero_le _)
/-- the raising of what e makes, out of a def: E is the def's wish -/
theorem tk_E {X : Cx} {E : XK} (hs : X.stack = X.env :: X.outer := by rfl) (hf : X.env.frame = some X.env.locals := by rfl) (hex : X.ex = [] := by rfl) {E₁ : Value → Shared → Prop}
    (hx : X.xe = fun e s' => wpAny (model X.prog X.w) X.A (leaving X.env e) (fun _ s'' => L2.CX X.prog X.w X.outer X.H_0 X.s_0 E e s'') E₁ s' := by rfl) : Takes X (fun cls d _ H => E cls d H) := takes_of hs hf hex hx
theorem pass_E {X : Cx} {E : XK} (tk : Takes X (fun cls d _ H => E cls d H)) : Passes (L2.CX X.prog X.w) X E := passes_call tk fun _ _ _ _ h => h
/-- the call of what was handed in, in the body of a try -/
def tAct (f c' : Addr) (q : Str) (tl : XK → Hp → VK → Prop) (W : WX) : TE := fun σ H Q => ∃ E : XK, (∀ cls d σ' H', E cls d H' → W cls d σ' H') ∧ σ[0]? = some (some (.ref f)) ∧ H c' = some (LamX.CodeO c' q) ∧ tl E H Q
theorem pe_actW {X : Cx} {e : Expr} {f c' : Addr} {q : Str} {tl : XK → Hp → VK → Prop} {W : WX} (h : ∀ E : XK, (∀ cls d σ' H', E cls d H' → W cls d σ' H') → PE X e (fun σZ HZ Q => σZ[0]? = some (some (.ref f)) ∧ HZ c' = some (LamX.CodeO c' q) ∧ tl E HZ Q)) :
    PE X e (tAct f c' q tl W) := ⟨fun pins s σ H Q I ⟨E, hW, h1, h2, h3⟩ => (h E hW).run pins s σ H Q I ⟨h1, h2, h3⟩⟩
end G
namespace G
open PySem PySem.Spec PySem.Calls PyProof.Rows L2
/-! ### six truths as a text; ("a text", None); a row of pairs -/
section
variable {KF : PySem.W.Frag} {H : Hp} {Q : VK} {a d : Addr} {s z : Str} {b0 b1 b2 b3 b4 b5 : Bool}
theorem shown_b (b : Bool) : (PyData.shown (.bool b)).length ≤ 5 := by cases b <;> decide +kernel
theorem repr_l6 (h : SqL KF H a [.bl b0, .bl b1, .bl b2, .bl b3, .bl b4, .bl b5]) (q : Q (.str (PyData.shown (.list [.bool b0, .bool b1, .bool b2, .bool b3, .bool b4, .bool b5]))) H) : rReprG KF [.ref a] H Q :=
  ⟨.ref a, .list [.bool b0, .bool b1, .bool b2, .bool b3, .bool b4, .bool b5], rfl, .lst h (.cons (.bl _) (.cons (.bl _) (.cons (.bl _) (.cons (.bl _) (.cons (.bl _) (.cons (.bl _) .nil)))))), by simp [PyData.showable, PyData.showableAll], by rfl, by
    have h0 := shown_b b0
    have h1 := shown_b b1
    have h2 := shown_b b2
    have h3 := shown_b b3
    have h4 := shown_b b4
    have h5 := shown_b b5
    have e : PyData.shown (.list [.bool b0, .bool b1, .bool b2, .bool b3, .bool b4, .bool b5]) = ("[" : Str) ++ (PyData.shown (.bool b0) ++ (", " : Str) ++ (PyData.shown (.bool b1) ++ (", " : Str) ++ (PyData.shown (.bool b2) ++ (", " : Str) ++ (PyData.shown (.bool b3) ++ (", " : Str) ++ (PyData.shown (.bool b4) ++ (", " : Str) ++ PyData.shown (.bool b5)))))) ++ ("]" : Str) := by
      simp only [PyData.shown_list, PyData.shownAll_cons, PyData.shownAll_nil]
      rfl
    rw [e, sizeLine_eq]
    simp only [strLen_append]
    have : ("[" : Str).length = 1 := by decide
    have : (", " : Str).length = 2 := by decide
    have : ("]" : Str).length = 1 := by decide
    omega, by simp [PyData.depth, PyData.depthAll], q⟩
theorem shp_sn (k : (PyData.str s).canLay0 = true) : SeqAt.shaped (.tuple [.str s, .none]) = true := by
  have k' : PyData.strOk s = true := k
  simp [SeqAt.shaped, PyData.canLay0, PyData.canLayAll0, PyData.depth, PyData.depthAll, k']
theorem eq_tsn (k1 : (PyData.str s).canLay0 = true) (k2 : (PyData.str z).canLay0 = true) (h1 : SqT KF H a [.str s, .non]) (h2 : SqT KF H d [.str z, .non]) (q : Q (.bl (decide (s = z))) H) : rEqG KF (.ref a) (.ref d) H Q :=
  eq_dd (.tup h1 (.cons (.str _) (.cons .non .nil))) (.tup h2 (.cons (.str _) (.cons .non .nil))) (shp_sn k1) (shp_sn k2) (by
    have e : PyData.eqv (.tuple [.str s, .none]) (.tuple [.str z, .none]) = decide (s = z) := by simp [PyData.eqv, PyData.eqvAll, Bool.beq_eq_decide_eq]
    rw [e]
    exact q)
/-- the list holds pairs of ints -/
inductive Prs (H : Hp) : List V → List (Int × Int) → Prop
  | nil : Prs H [] []
  | cons {a : Addr} {p : Int × Int} {xs : List V} {ps : List (Int × Int)} (h : H a = some (.tup [.int p.1, .int p.2])) (r : Prs H xs ps) : Prs H (.ref a :: xs) (p :: ps)
abbrev pdp (p : Int × Int) : PyData := .tuple [.int p.1, .int p.2]
theorem Prs.dp {xs : List V} {ps : List (Int × Int)} (h : Prs H xs ps) : DpAll KF H xs (ps.map pdp) := by
  induction h with
  | nil => exact .nil
  | cons h _ ih => exact .cons (.tup (.of h) (.cons (.int _) (.cons (.int _) .nil))) ih
theorem prs_lay (ps : List (Int × Int)) : PyData.canLayAll0 (ps.map pdp) = true ∧ PyData.depthAll (ps.map pdp) ≤ 1 := by
  induction ps with
  | nil => exact ⟨rfl, by simp [PyData.depthAll]⟩
  | cons p r ih =>
    refine ⟨by simp [PyData.canLayAll0, PyData.canLay0, ih.1], ?_⟩
    have := ih.2
    simp only [List.map_cons, PyData.depthAll, PyData.depth]
    omega
theorem prs_shaped (ps : List (Int × Int)) : SeqAt.shaped (.list (ps.map pdp)) = true := by
  obtain ⟨h1, h2⟩ := prs_lay ps
  have d : PyData.depth (.list (ps.map pdp)) ≤ 2 := by
    simp only [PyData.depth]
    omega
  simp only [SeqAt.shaped, PyData.canLay0, h1, Bool.and_eq_true, decide_eq_true_eq]
  first | omega | (refine ⟨?_, ?_⟩ <;> first | rfl | trivial | omega)
theorem ne_prs {xs : List V} {ps : List (Int × Int)} (h1 : H a = some (.lst xs)) (hp : Prs H xs ps) (h2 : SqL KF H d []) (q : Q (.bl (!decide (ps = []))) H) : rNeG KF (.ref a) (.ref d) H Q :=
  ne_dd (.lst (.of h1) hp.dp) (.lst h2 .nil) (prs_shaped ps) (by rfl) (by
    have e : PyData.eqv (.list (ps.map pdp)) (.list []) = decide (ps = []) := by cases ps <;> simp [PyData.eqv, PyData.eqvAll]
    rw [e]
    exact q)
theorem Prs.kp {H' : Hp} {xs : List V} {ps : List (Int × Int)} (k : Kp H H') (h : Prs H xs ps) : Prs H' xs ps := by
  induction h with
  | nil => exact .nil
  | cons h _ ih => exact .cons (k _ _ h) ih
theorem Prs.md {H' : Hp} {p : Addr} {xs : List V} {ps : List (Int × Int)} (k : Md p H H') (h : Prs H xs ps) : Prs H' xs ps := by
  induction h with
  | nil => exact .nil
  | cons h _ ih => exact .cons (k.tup h) ih
theorem Prs.len {xs : List V} {ps : List (Int × Int)} (h : Prs H xs ps) : xs.length = ps.length := by
  induction h with
  | nil => rfl
  | cons _ _ ih => simp [ih]
theorem Prs.app {x : Addr} {p : Int × Int} {xs : List V} {ps : List (Int × Int)} (h : Prs H xs ps) (e : H x = some (.tup [.int p.1, .int p.2])) : Prs H (xs ++ [.ref x]) (ps ++ [p]) := by
  induction h with
  | nil => exact .cons e .nil
  | cons h _ ih => exact .cons h ih
theorem Prs.mem {v : V} {xs : List V} {ps : List (Int × Int)} (h : Prs H xs ps) (hv : v ∈ xs) : ∃ a p, v = .ref a ∧ p ∈ ps ∧ H a = some (.tup [.int p.1, .int p.2]) := by
  induction h with
  | nil => cases hv
  | cons h _ ih =>
    rcases List.mem_cons.mp hv with e | e
    · exact ⟨_, _, e, List.mem_cons_self, h⟩
    · obtain ⟨a, p, e1, e2, e3⟩ := ih e
      exact ⟨a, p, e1, List.mem_cons_of_mem _ e2, e3⟩
theorem Prs.at {xs : List V} {ps : List (Int × Int)} (h : Prs H xs ps) {i : Nat} {v : V} (e : xs[i]? = some v) : ∃ a p, v = .ref a ∧ ps[i]? = some p ∧ H a = some (.tup [.int p.1, .int p.2]) := by
  induction h generalizing i with
  | nil => simp at e
  | cons h _ ih =>
    cases i with
    | zero =>
      simp at e
      exact ⟨_, _, e.symm, by simp, h⟩
    | succ i =>
      simp at e
      obtain ⟨a, p, e1, e2, e3⟩ := ih e
      exact ⟨a, p, e1, by simpa using e2, e3⟩
end
end G
namespace G
open PySem PySem.Spec PySem.Calls PyProof.Rows L2
section
variable {tl : TA} {i j k : Nat} {x y z : V} {σ σ' : L2.St} {H : Hp} {n b c : L2.St → Hp → Prop} {r : VK} {Q : VK}
def Par3K (i j k : Nat) (vs : List V) (σ : L2.St) (H1 : Hp) (n : L2.St → Hp → Prop) : Prop := ∃ u v w, vs = [u, v, w] ∧ n (((σ.set i (some u)).set j (some v)).set k (some w)) H1
theorem st_par3 (q : tl σ H fun vs H1 => Par3K i j k vs σ H1 n) : tPar3 i j k tl ⟨n, r, b, c⟩ σ H := q
theorem st_par3K (e : ((σ.set i (some x)).set j (some y)).set k (some z) = σ') (q : n σ' H) : Par3K i j k [x, y, z] σ H n := ⟨x, y, z, rfl, by rw [e]; exact q⟩
/-- x(lambda: ..) -/
theorem st_lamG {P : Addr} {TT : (XK → Hp → VK → Prop) → Hp → VK → Prop} {t : XK → TE} (h : TabP H P) (q : ∀ H1, Kp H H1 → TT (fun E H' Q' => t E σ H' Q') H1 Q) : tLamG P TT t σ H Q := ⟨h, q⟩
end
end G
namespace G
open PySem PySem.Spec PySem.Calls PyProof.Rows L2
/-! ### own exceptions whose __init__ says super().__init__(x, ..) and keeps its parameters under their names -/
def supArgs : List Str → List Expr → Bool
  | [], [] => true
  | n :: ns, .Name m _ :: r => decide (m = n) && supArgs ns r
  | _, _ => false
def supRest : List Str → List Stmt → Bool
  | [], [] => true
  | n :: ns, .Assign [.Attribute (.Name s _) m _] (.Name v _) _ :: r => decide (s = "self") && (decide (m = n) && (decide (v = n) && supRest ns r))
  | _, _ => false
def supBody (ns : List Str) : FuncBody → Bool
  | .stmts (.Expr (.Call (.Attribute (.Call (.Name s _) [] [] _) i p2) as [] p3) _ :: r) => decide (p2.endLine = p3.line) && decide (s = "super") && (decide (i = "__init__") && (supArgs ns as && supRest ns r))
  | _ => false
def supPar (ns : List Str) (a : Arguments) : Bool := match a with
  | ⟨[], as, none, [], [], none, []⟩ => decide (as.map (·.arg) = ("self" : Str) :: ns)
  | _ => false
def supScope (ns : List Str) (sc : Scope) : Bool := decide (sc.kind = .function) && (!sc.isCoroutine && (!sc.isGenerator && (decide (sc.names.lookup ("super" : Str) = some .globalImplicit) && (decide (sc.names.lookup ("__class__" : Str) = some .free) &&
  ((("self" : Str) :: ns).all (fun x => decide (sc.names.lookup x = some .local)) && sc.names.all fun y => decide (y.2 ≠ .cell) && (decide (y.2 ≠ .free) || decide (y.1 = ("__class__" : Str))))))))
def supNames (ns : List Str) : Bool := decide ((("self" : Str) :: ns).Nodup) && (decide (ns ≠ []) && (decide (ns.length ≤ 20) && (("self" : Str) :: ns).all fun n => !(n == "__debug__") && !(n == "__classdict__")))
def fileIn (K : PySem.W.Frag) (c : Addr) (file : Str) : Bool := match K.lookup c with
  | some ⟨_, _, .fields vs, _⟩ => (match (vs[2]? : Option Value) with
    | some (.str f _) => decide (file = f)
    | _ => false)
  | _ => false
def cellIn (K : PySem.W.Frag) (c C : Addr) : Bool := match K.lookup c with
  | some ⟨_, _, .cell (some (.ref D)), _⟩ => decide (D = C)
  | _ => false
def supFn (K : PySem.W.Frag) (C : Addr) (ns : List Str) (file : Str) (fd : FuncData) : Bool := match fd.closure, fd.code, fd.defaults with
  | [(c, cc)], .ref cda, .none => decide (c = "__class__") && (cellIn K cc C && (fileIn K cda file && (PySem.W.codeIn K (.ref cda) fd.qualname && (decide (fd.globals = mainGlobals) && (decide (fd.builtins = builtinsNs) && (supPar ns fd.params && (supBody ns fd.body && supScope ns fd.scope)))))))
  | _, _, _ => false
def oexB (K : PySem.W.Frag) (C : Addr) : Bool := (match K.lookup C with
  | some ⟨.type "type", _, .cls cd, sl⟩ => (match cd.mro, sl.toList with
    | .ref C' :: bm, [_, _, _, _, some (.builtin n), _] => decide (C' = C) && (decide (n = "ValueError.__new__") && (!cd.hasDel && (cd.hasDict && (PySem.HandSPX.refsVE bm && decide (PySem.W.alongIn K "__init__" bm = some (some (.builtin "ValueError.__init__")))))))
    | _, _ => false)
  | _ => false)
theorem oexB_ok {K : PySem.W.Frag} {C : Addr} (q : oexB K C = true) : ∃ nm qn N bs bm sn sub ab col dd k0 k1 k2 k3 k5, K.lookup C = some (excClassObj nm qn C N bs bm true sn sub ab col dd k0 k1 k2 k3 k5 "ValueError.__new__") ∧ PySem.HandSPX.refsVE bm = true ∧
    PySem.W.alongIn K "__init__" bm = some (some (.builtin "ValueError.__init__")) := by
  unfold oexB at q
  split at q
  · rename_i dd cd sl ho
    split at q
    · rename_i C' bm k0 k1 k2 k3 n k5 hm hs
      obtain ⟨h1, q⟩ := He.ba q
      obtain ⟨h2, q⟩ := He.ba q
      obtain ⟨h3, q⟩ := He.ba q
      obtain ⟨h4, q⟩ := He.ba q
      obtain ⟨h5, h6⟩ := He.ba q
      replace h1 := of_decide_eq_true h1
      replace h2 := of_decide_eq_true h2
      subst h1 h2
      obtain ⟨nm, bs, mro, ns, qn, hd, sn, sub, ab, col, del⟩ := cd
      dsimp only at hm h3 h4
      subst hm h4
      replace h3 : del = false := by simpa using h3
      subst h3
      have hsl : sl = #[k0, k1, k2, k3, some (.builtin "ValueError.__new__"), k5] := by
        obtain ⟨l⟩ := sl
        simp only at hs
        rw [hs]
      subst hsl
      exact ⟨nm, qn, ns, bs, bm, sn, sub, ab, col, dd, k0, k1, k2, k3, k5, ho, h5, of_decide_eq_true h6⟩
    · cases q
  · cases q
/-- all that is asked of the class at C -/
def supAll (K : PySem.W.Frag) (C : Addr) (ns : List Str) (file : Str) : Bool := (match PySem.W.findIn K (.ref C) "__init__" with
  | some (some (.ref f)) => decide (PySem.W.typeIn K (.ref f) = some (.type "function")) && (match K.lookup f with
    | some ⟨_, _, .func fd, _⟩ => supFn K C ns file fd
    | _ => false)
  | _ => false) && (oexB K C && (decide (PySem.W.findIn K (.ref C) "__setattr__" = some (some (.builtin "object.__setattr__"))) && (decide (PySem.W.subIn K (.ref C) (.type "BaseException") = some true) && (decide (PySem.W.typeIn K (.ref C) = some (.type "type")) && (PySem.W.keepIn K (.ref C) &&
  (decide (PySem.W.subIn K (.ref C) (.type "ValueError") = some true) && (decide (PySem.W.subIn K (.ref C) (.ref C) = some true) && (decide (PySem.W.nsIn K cStatics "thirdparty.any" = some none) && (supNames ns && (ns.all (fun n => decide (PySem.W.findIn K (.ref C) n = some none)) && xfB K C))))))))))
def supB (x : Str) (ns : List Str) (file : Str) : ExB := fun K => supAll K (He.ga K x) ns file
structure SupFd (K : PySem.W.Frag) (C f : Addr) (ns : List Str) (file : Str) (fd : FuncData) (name qual : Str) (params : Arguments) (as : List Expr) (rest : List Stmt) (scope : Scope) (kV doc pm ct : Value) (an : Option Addr) (cda cc : Addr) (p0 p1 p2 p3 p4 : Pos) : Prop where
  eq : fd = PySem.W.ksFn name qual params (.Expr (.Call (.Attribute (.Call (.Name "super" p0) [] [] p1) "__init__" p2) as [] p3) p4 :: rest) scope .none kV doc pm an (.ref cda) ct cc
  at_ : ∃ oc od osl, K.lookup f = some ⟨oc, od, .func fd, osl⟩
  args : supArgs ns as = true
  line : p2.endLine = p3.line
  rest : supRest ns rest = true
  par : supPar ns params = true
  scope : supScope ns scope = true
  code : PySem.W.codeIn K (.ref cda) qual = true
  file : fileIn K cda file = true
  cell : cellIn K cc C = true
structure SupC (K : PySem.W.Frag) (C : Addr) (ns : List Str) (file : Str) : Prop where
  fn : ∃ (f : Addr) (fd : FuncData), PySem.W.findIn K (.ref C) "__init__" = some (some (.ref f)) ∧ PySem.W.typeIn K (.ref f) = some (.type "function") ∧ ∃ name qual params as rest scope kV doc pm ct an cda cc p0 p1 p2 p3 p4, SupFd K C f ns file fd name qual params as rest scope kV doc pm ct an cda cc p0 p1 p2 p3 p4
  oex : OexC K C
  raw : oexB K C = true
  ve : PySem.W.subIn K (.ref C) (.type "ValueError") = some true
  own : PySem.W.subIn K (.ref C) (.ref C) = some true
  st : PySem.W.nsIn K cStatics "thirdparty.any" = some none
  names : supNames ns = true
  no : ∀ n ∈ ns, PySem.W.findIn K (.ref C) n = some none
  xf : XfC K C
theorem supAll_ok {K : PySem.W.Frag} {C : Addr} {ns : List Str} {file : Str} (h : supAll K C ns file = true) : SupC K C ns file := by
  obtain ⟨h0, h⟩ := He.ba h
  obtain ⟨h1, h⟩ := He.ba h
  obtain ⟨h2, h⟩ := He.ba h
  obtain ⟨h3, h⟩ := He.ba h
  obtain ⟨h4, h⟩ := He.ba h
  obtain ⟨h5, h⟩ := He.ba h
  obtain ⟨h6, h⟩ := He.ba h
  obtain ⟨h7, h⟩ := He.ba h
  obtain ⟨h8, h⟩ := He.ba h
  obtain ⟨h9, h⟩ := He.ba h
  obtain ⟨h10, h11⟩ := He.ba h
  refine ⟨?_, ?_, h1, of_decide_eq_true h6, of_decide_eq_true h7, of_decide_eq_true h8, h9, fun n hn => of_decide_eq_true (List.all_eq_true.mp h10 n hn), xfB_ok h11⟩
  · split at h0
    · rename_i f e
      obtain ⟨k1, k2⟩ := He.ba h0
      split at k2
      · rename_i oc od fd osl lk
        refine ⟨f, fd, e, of_decide_eq_true k1, ?_⟩
        unfold supFn at k2
        split at k2
        · rename_i c cc cda ec ed edf
          obtain ⟨j1, k2⟩ := He.ba k2
          obtain ⟨j2, k2⟩ := He.ba k2
          obtain ⟨j3, k2⟩ := He.ba k2
          obtain ⟨j4, k2⟩ := He.ba k2
          obtain ⟨j5, k2⟩ := He.ba k2
          obtain ⟨j6, k2⟩ := He.ba k2
          obtain ⟨j7, k2⟩ := He.ba k2
          obtain ⟨j8, j9⟩ := He.ba k2
          replace j1 := of_decide_eq_true j1
          replace j5 := of_decide_eq_true j5
          replace j6 := of_decide_eq_true j6
          clear h0 k2 h
          obtain ⟨n1, n2, n3, n4, n5, n6, n7, n8, n9, n10, n11, n12, n13, n14, n15⟩ := fd
          dsimp only at ec ed edf j4 j5 j6 j7 j8 j9
          subst ec ed edf j1 j5 j6
          unfold supBody at j8
          split at j8
          · rename_i s p0 p1 i p2 as p3 p4 r
            obtain ⟨i01, j8⟩ := He.ba j8
            obtain ⟨i0, i1⟩ := He.ba i01
            obtain ⟨i2, j8⟩ := He.ba j8
            obtain ⟨i3, i4⟩ := He.ba j8
            replace i1 := of_decide_eq_true i1
            replace i2 := of_decide_eq_true i2
            subst i1 i2
            exact ⟨_, _, _, _, _, _, _, _, _, _, _, _, _, _, _, _, _, _, rfl, ⟨_, _, _, lk⟩, i3, of_decide_eq_true i0, i4, j7, j9, j4, j3, j2⟩
          · cases j8
        · cases k2
      · cases k2
    · cases h0
  · obtain ⟨nm, qn, N, bs, bm, sn, sub, ab, col, dd, k0, k1, k2, k3, k5, hC, hbm, _⟩ := oexB_ok h1
    exact ⟨⟨nm, qn, N, bs, bm, sn, sub, ab, col, dd, k0, k1, k2, k3, k5, hC, hbm⟩, of_decide_eq_true h2, of_decide_eq_true h3, of_decide_eq_true h4, h5⟩
theorem supB_ok {K : PySem.W.Frag} {x : Str} {ns : List Str} {file : Str} (h : supB x ns file K = true) : SupC K (He.ga K x) ns file := supAll_ok h
end G
namespace G
open PySem PySem.Spec PySem.Calls PyProof.Rows L2
/-- what is asked of the program: its file, no own `super` -/
class SupP (P : Program) (file : Str) : Prop where
  ok : ((P.main.file : Str) == file) = true ∧ (P.main.scope.names.lookup ("super" : Str)).isSome = false
structure ScF (ns : List Str) (sc : Scope) : Prop where
  kind : sc.kind = .function
  co : sc.isCoroutine = false
  gen : sc.isGenerator = false
  sup : sc.names.lookup ("super" : Str) = some .globalImplicit
  cls : sc.names.lookup ("__class__" : Str) = some .free
  loc : ∀ x ∈ (("self" : Str) :: ns), sc.names.lookup x = some .local
  nocell : ∀ y ∈ sc.names, y.2 ≠ .cell
  free : ∀ y ∈ sc.names, y.2 = .free → y.1 = "__class__"
theorem supScope_ok {ns : List Str} {sc : Scope} (h : supScope ns sc = true) : ScF ns sc := by
  obtain ⟨h1, h⟩ := He.ba h
  obtain ⟨h2, h⟩ := He.ba h
  obtain ⟨h3, h⟩ := He.ba h
  obtain ⟨h4, h⟩ := He.ba h
  obtain ⟨h5, h⟩ := He.ba h
  obtain ⟨h6, h7⟩ := He.ba h
  refine ⟨of_decide_eq_true h1, by simpa using h2, by simpa using h3, of_decide_eq_true h4, of_decide_eq_true h5, fun x hx => of_decide_eq_true (List.all_eq_true.mp h6 x hx), fun y hy => of_decide_eq_true (He.ba (List.all_eq_true.mp h7 y hy)).1, fun y hy e => ?_⟩
  have z := (He.ba (List.all_eq_true.mp h7 y hy)).2
  rcases Bool.or_eq_true_iff.mp z with z | z
  · exact absurd e (of_decide_eq_true z)
  · exact of_decide_eq_true z
/-- the context of such an __init__ -/
def cxS (CX : CXT) (P : Program) (w : World) (K : PySem.W.Frag) (mg : Str → Option Value) (base : Heap) (N : List Str) (qual : Str) (scope : Scope) (f cda cc : Addr) (A : Around) (outer : List Env) (s : Shared) (H : Hp) (E : XK) : Cx where
  prog := P
  w := w
  K := K
  mg := mg
  base := base
  A := A.deeper (PySem.W.ksEnv qual scope s.heap.objs.size f (.ref cda) cc)
  N := N
  s_0 := s
  H_0 := H
  env := PySem.W.ksEnv qual scope s.heap.objs.size f (.ref cda) cc
  outer := outer
  stack := PySem.W.ksEnv qual scope s.heap.objs.size f (.ref cda) cc :: outer
  ex := []
  calm := true
  fn := fun _ => false
  pn := []
  xe := fun e s' => wpAny (model P w) (A.deeper (PySem.W.ksEnv qual scope s.heap.objs.size f (.ref cda) cc)) (leaving (PySem.W.ksEnv qual scope s.heap.objs.size f (.ref cda) cc) e) (fun _ s'' => CX outer H s E e s'') (fun e' s'' => CX outer H s E e' s'') s'
theorem lookup_nd {x : Str} {v : Value} : ∀ {l : List (Str × Value)}, (l.map (·.1)).Nodup → (x, v) ∈ l → l.lookup x = some v
  | [], _, h => by cases h
  | (y, u) :: r, nd, h => by
    rw [List.map_cons, List.nodup_cons] at nd
    rcases List.mem_cons.mp h with e | e
    · cases e
      simp [List.lookup]
    · have hne : x ≠ y := fun z => nd.1 (by rw [← z]; exact List.mem_map.mpr ⟨_, e, rfl⟩)
      have hb : (x == y) = false := by simpa using hne
      simp only [List.lookup, hb]
      exact lookup_nd nd.2 e
section
variable {CX : CXT} {P : Program} {w : World} {K : PySem.W.Frag} {mg : Str → Option Value} {base : Heap} {ns : List Str} {qual : Str} {scope : Scope} {f cda cc C : Addr} {A : Around} {outer : List Env} {s : Shared} {H : Hp} {E : XK} {us : List Value} {vs : List V} {h₁ : Heap} {tk : Nat}
theorem sup_start (S : ScF ns scope) (nd : (("self" : Str) :: ns).Nodup) (hd : A.handled = none) (e0 : Env0 P w K mg base A outer s H) (hc : base.IsCell cc (some (.ref C))) (hl : vs.length = ns.length + 1) (r : Vals vs us)
    (hns : h₁.Ns s.heap.objs.size fun x => ((("self" : Str) :: ns).zip us).reverse.lookup x) (kp : ∀ b o, s.heap.get? b = some o → h₁.get? b = some o) :
    Inv (cxS CX P w K mg base (("self" : Str) :: ns) qual scope f cda cc A outer s H E) [] (vs.map some) H { s with heap := h₁, toks := tk } := by
  have noA : ∀ b : Addr, b ∉ (cxS CX P w K mg base (("self" : Str) :: ns) qual scope f cda cc A outer s H E).ex := fun b z => absurd (show b ∈ ([] : List Addr) from z) (by simp)
  have cl1 : ∀ {y : Str} {c : Addr}, (([("__class__", cc)] : List (Str × Addr)).lookup y = some c) → y = "__class__" ∧ c = cc := fun {y c} e => by
    have m := PySem.mem_of_lookup e
    rw [List.mem_singleton] at m
    cases m
    exact ⟨rfl, rfl⟩
  obtain ⟨oc, hoc, hdc⟩ := hc
  have bc := e0.bs cc oc hoc
  refine ⟨⟨e0.mod, S.kind, rfl, rfl, Nat.le_refl _, fun y z c e1 e2 => ?_, fun y hy => ?_, fun y c z _ => ?_, fun _ => hd, Around.frames_deeper e0.frames, .inr ⟨rfl, rfl⟩, fun b z => absurd z (noA b), e0.bs, e0.bsz, fun b _ _ => noA b,
      fun b z => absurd z (noA b), e0.funs, e0.frf⟩,
    rfl, e0.bare, Un.kept kp, ⟨_, hns, fun i y v e1 e2 e3 => ?_⟩, fun y c e => ?_, e0.hok.fresh (Nat.le_refl _), fun y c e => ?_, fun q hq => absurd (show q ∈ ([] : List (Addr × Obj)) ++ [] from hq) (by simp), e0.hok.kept kp, ?_⟩
  · rw [(cl1 e1).1, (cl1 e2).1]
  · have hy : scope.names.lookup y = some .cell ∨ scope.names.lookup y = some .free := hy
    rcases hy with hy | hy
    · exact absurd rfl (S.nocell _ (PySem.mem_of_lookup hy))
    · have z := S.free _ (PySem.mem_of_lookup hy) rfl
      have z : y = "__class__" := z
      subst z
      exact ⟨cc, rfl⟩
  · have z : false = true := z
    cases z
  · have ha : vs[i]? = some v := by
      rw [List.getElem?_map] at e2
      cases e : vs[i]? with
      | none => rw [e] at e2; cases e2
      | some a => rw [e] at e2; cases e2; rfl
    obtain ⟨u, hu, rv⟩ := r.get ha
    have e1 : (("self" : Str) :: ns)[i]? = some y := e1
    refine ⟨u, rv, .inl ⟨S.loc y (List.mem_of_getElem? e1), ?_⟩⟩
    have hz : ((("self" : Str) :: ns).zip us)[i]? = some (y, u) := List.getElem?_zip_eq_some.mpr ⟨e1, hu⟩
    refine lookup_nd ?_ (List.mem_reverse.mpr (List.mem_of_getElem? hz))
    rw [List.map_reverse]
    refine List.nodup_iff_pairwise_ne.mpr (List.pairwise_reverse.mpr ((List.nodup_iff_pairwise_ne.mp ?_).imp fun h => Ne.symm h))
    have hlen : (("self" : Str) :: ns).length ≤ us.length := by
      rw [← r.length, hl]
      exact Nat.le_refl _
    rw [List.map_fst_zip hlen]
    exact nd
  · have e := cl1 e
    obtain ⟨_, rfl⟩ := e
    exact ⟨_, oc, kp _ _ bc.1, hdc⟩
  · have e := cl1 e
    obtain ⟨_, rfl⟩ := e
    exact bc.2
  · show (vs.map some).length = (("self" : Str) :: ns).length
    rw [List.length_map, hl, List.length_cons]
end
section
variable {X : Cx} {pins : List (Addr × Obj)} {σ : L2.St} {H : Hp} {s : Shared} {a C u : Addr} {E : Value → Shared → Prop}
def OkN (n : Str) : Prop := (n == ("__debug__" : Str)) = false ∧ (n == ("__classdict__" : Str)) = false
theorem supArgs_nil {as : List Expr} (h : supArgs [] as = true) : as = [] := by
  unfold supArgs at h
  split at h
  · rfl
  · rename_i e
    exact absurd e (by simp)
  · cases h
theorem supArgs_cons {n : Str} {ns : List Str} {as : List Expr} (h : supArgs (n :: ns) as = true) : ∃ p r, as = .Name n p :: r ∧ supArgs ns r = true := by
  unfold supArgs at h
  split at h
  · rename_i e
    cases e
  · rename_i n' ns' m p r e
    cases e
    obtain ⟨h1, h2⟩ := He.ba h
    replace h1 := of_decide_eq_true h1
    subst h1
    exact ⟨p, r, rfl, h2⟩
  · cases h
theorem supRest_nil {as : List Stmt} (h : supRest [] as = true) : as = [] := by
  unfold supRest at h
  split at h
  · rfl
  · rename_i e
    exact absurd e (by simp)
  · cases h
theorem supRest_cons {n : Str} {ns : List Str} {as : List Stmt} (h : supRest (n :: ns) as = true) : ∃ p p' pv pos r, as = .Assign [.Attribute (.Name "self" p) n p'] (.Name n pv) pos :: r ∧ supRest ns r = true := by
  unfold supRest at h
  split at h
  · rename_i e
    cases e
  · rename_i n' ns' s p m p' v pv pos r e
    cases e
    obtain ⟨h1, h⟩ := He.ba h
    obtain ⟨h2, h⟩ := He.ba h
    obtain ⟨h3, h4⟩ := He.ba h
    replace h1 := of_decide_eq_true h1
    replace h2 := of_decide_eq_true h2
    replace h3 := of_decide_eq_true h3
    subst h1 h2 h3
    exact ⟨p, p', pv, pos, r, rfl, h4⟩
  · cases h
/-- the written arguments -/
theorem sup_pa {ns : List Str} : ∀ {as : List Expr} {ys : List V}, supArgs ns as = true → ys.length = ns.length → (∀ n ∈ ns, OkN n ∧ Vis X.env.scope n) → (∀ p ∈ ns.zip ys, ∃ i : Nat, X.N[i]? = some p.1 ∧ σ[i]? = some (some p.2)) →
    PA X as (fun σ' H Q => σ' = σ ∧ Q ys H) ∧ ∀ pos : Pos, (backTo pos (starEach as X.env)).any (·.1) = false := by
  induction ns with
  | nil =>
    intro as ys h hl _ _
    cases supArgs_nil h
    cases List.eq_nil_of_length_eq_zero hl
    exact ⟨⟨fun pos pins s σ H Q I h => pa_nil.run pos pins s σ H Q I h.2⟩, fun _ => rfl⟩
  | cons n ns ih =>
    intro as ys h hl hn hz
    obtain ⟨p, r, rfl, h2⟩ := supArgs_cons h
    cases ys with
    | nil => cases hl
    | cons y ys =>
      obtain ⟨ihp, iha⟩ := ih (as := r) (ys := ys) h2 (by simpa using hl) (fun n hm => hn n (List.mem_cons_of_mem _ hm)) (fun p hp => hz p (by rw [List.zip_cons_cons]; exact List.mem_cons_of_mem _ hp))
      obtain ⟨i, e1, e2⟩ := hz (n, y) (by rw [List.zip_cons_cons]; exact List.mem_cons_self)
      obtain ⟨⟨d1, d2⟩, v⟩ := hn n List.mem_cons_self
      refine ⟨⟨fun pos pins s σ' H Q I h => ?_⟩, fun pos => ?_⟩
      · obtain ⟨rfl, q⟩ := h
        exact (pa_cons (pe_var (pos := p) e1 v d1 d2) ihp).run pos pins s σ' H Q I ⟨y, e2, rfl, q⟩
      · exact iha pos
theorem supArgs_len : ∀ {ns : List Str} {as : List Expr}, supArgs ns as = true → as.length = ns.length := by
  intro ns
  induction ns with
  | nil =>
    intro as h
    rw [supArgs_nil h]
    rfl
  | cons n ns ih =>
    intro as h
    obtain ⟨p, r, rfl, h2⟩ := supArgs_cons h
    rw [List.length_cons, List.length_cons, ih h2]
theorem sup_eval {o : Expr} {name : Str} {as : List Expr} {p2 p3 : Pos} {env : Env} (hl : p2.endLine = p3.line) (h : (backTo p3 (starEach as env)).any (·.1) = false) (hn : as.length < 29) :
    eval (.Call (.Attribute o name p2) as [] p3) env = (do
      let ov ← attributeBase o name env (eval o env)
      standAt p2.atName
      let (f, first) ← holding [ov] (getMethod ov name (do return (← importBound o env).getD true))
      callWith p3 f first (backTo p3 (starEach as env)) []) := by
  have hf : methodCallForm (as.length + ([] : List Keyword).length) (backTo p3 (starEach as env)) (backToKw p3 (keywordEach [] env)) = true := by
    unfold methodCallForm
    rw [Bool.and_eq_true, Bool.and_eq_true]
    refine ⟨⟨List.all_eq_true.mpr fun x hx => ?_, rfl⟩, ?_⟩
    · have z := List.any_eq_false.mp h x hx
      simpa using z
    · show decide (as.length + 0 + 0 < 30) = true
      exact decide_eq_true (by omega)
  have hp : methodCallPos true o env p2 p3 = pure p3 := by
    unfold methodCallPos
    rw [if_pos (by simp [hl])]
  show (do
    let ov ← attributeBase o name env (eval o env)
    standAt p2.atName
    methodCall o name p2 p3 env ov (as.length + ([] : List Keyword).length) (backTo p3 (starEach as env)) (backToKw p3 (keywordEach [] env))) = _
  unfold methodCall calleeOf
  rw [hf]
  simp only [if_true, hp, pure_bind]
  rfl
/-- the call of the bound ValueError.__init__: nothing of it is told -/
theorem sup_call {us : List Value} {Q : Value → Shared → Prop} (T : OexC X.K C) (I : Inv X pins σ H s) (e : H a = some (exo a C none)) (hu : s.heap.get? u = some (PySem.W.kxs_mw "ValueError.__init__" a)) (hl : us.length ≤ sizeLine) (h : ∀ s', Inv X pins σ H s' → Q .none s') :
    wpAny (model X.prog X.w) X.A (call (.ref u) us) Q E s := by
  obtain ⟨nm, q, N, bs, bm, sn, sub, ab, col, dd, k0, k1, k2, k3, k5, hC, hbm⟩ := T.cls
  obtain ⟨t1, ho⟩ := exo_at I.hok e
  obtain ⟨hp, g, d, t, os⟩ := s
  refine wpAny_call (codeAny_of_tree ?_)
  show wpAny _ X.A.in1 (callAny (.ref u) ⟨us, []⟩) _ _ _
  simp only [callAny]
  refine wpAny_bind (wpAny_load hu ?_)
  simp only [PySem.W.kxs_mw, show (Value.type "method-wrapper" == Value.type "method" || Value.type "method-wrapper" == Value.type "builtin_function_or_method" || Value.type "method-wrapper" == Value.type "method-wrapper") = true by decide, if_true]
  refine PySem.W.KFB.if_so (by decide) ?_
  refine wpAny_bind (PySem.W.check_bound_init F.excBase_ValueError.toExcCallFacts (I.kIn _ _ hC) ho rfl ?_)
  refine wpAny_bind (wpAny_pure (wpAny_pure ?_))
  refine ⟨plainId_quiet F.excBase_ValueError.init.plain _, codeAny_builtin F.excBase_ValueError.initEntry ?_⟩
  refine PySem.W.exc_init_tree (cls := .ref C) (t0 := t1) (dv := none) (c2 := .none) (c3 := .none) (b4 := .bool false) ho hl fun h' k hx _ => ?_
  have J := I.write (t' := t) (x := a) (e := a) (o := exo a C none) (by rw [e]; exact True.intro) (.inl rfl) k ⟨_, hx⟩ (exo_ok hx)
  have eu : upd H a (exo a C none) = H := by
    funext b
    by_cases hb : b = a
    · rw [hb, upd_same, e]
    · rw [upd_ne hb]
  rw [eu] at J
  exact h _ J
/-- the fields, once there is a dict -/
theorem sup_rest {dx : Addr} {ns : List Str} (T : OexC X.K C) (hself : X.N[0]? = some ("self" : Str)) (vself : Vis X.env.scope "self") (hne : dx ≠ a) (h0 : σ[0]? = some (some (.ref a))) : ∀ {rest : List Stmt} {ys : List V} {fs : List (Str × V)} {H : Hp} {s : Shared} {D : Ends}, supRest ns rest = true → ys.length = ns.length →
    (∀ n ∈ ns, OkN n ∧ Vis X.env.scope n) → (∀ p ∈ ns.zip ys, ∃ i : Nat, X.N[i]? = some p.1 ∧ σ[i]? = some (some p.2)) → (∀ n ∈ ns, PySem.W.findIn X.K (.ref C) n = some none) →
    H a = some (exo a C (some dx)) → H dx = some (exd dx fs) → fs.length + ns.length ≤ 900 → Inv X pins σ H s → D.nx σ (upd H dx (exd dx ((ns.zip ys).reverse ++ fs))) → wpAny (model X.prog X.w) X.A (execs rest X.env) (SP X pins D) X.xe s := by
  induction ns with
  | nil =>
    intro rest ys fs H s D h hl _ _ _ ea ed _ I q
    cases supRest_nil h
    cases List.eq_nil_of_length_eq_zero hl
    refine pss_nil.run pins s σ H D I ?_
    have eu : upd H dx (exd dx fs) = H := by
      funext b
      by_cases hb : b = dx
      · rw [hb, upd_same, ed]
      · rw [upd_ne hb]
    have q : D.nx σ (upd H dx (exd dx fs)) := q
    rw [eu] at q
    exact q
  | cons v ns ih =>
    intro rest ys fs H s D h hl hn hz hno ea ed hL I q
    obtain ⟨p, p', pv, pos, r, rfl, h4⟩ := supRest_cons h
    cases ys with
    | nil => cases hl
    | cons y ys =>
      obtain ⟨i, e1, e2⟩ := hz (v, y) (by rw [List.zip_cons_cons]; exact List.mem_cons_self)
      obtain ⟨⟨d1, d2⟩, vv⟩ := hn v List.mem_cons_self
      rw [List.length_cons] at hL
      refine wpAny_execs_cons (thn ((ps_ost (f := v) (p' := p') (pos := pos) (pe_var (i := 0) (pos := p) hself vself) (pe_var (pos := pv) e1 vv d1 d2)).run pins s σ H { D with nx := fun σ' H' => σ' = σ ∧ H' = upd H dx (exd dx ((v, y) :: fs)) } I
        ⟨y, e2, .ref a, h0, a, C, rfl, T, hno v List.mem_cons_self, .inr ⟨dx, fs, ea, ed, by omega, rfl, rfl⟩⟩) fun f s1 q1 => ?_)
      cases f with
      | next =>
        obtain ⟨σ', H', I', e3, e4⟩ := q1
        subst e3 e4
        refine ih (rest := r) (ys := ys) (fs := (v, y) :: fs) h4 (by simpa using hl) (fun n hm => hn n (List.mem_cons_of_mem _ hm)) (fun p hp => hz p (by rw [List.zip_cons_cons]; exact List.mem_cons_of_mem _ hp)) (fun n hm => hno n (List.mem_cons_of_mem _ hm)) ?_ upd_same (by rw [List.length_cons]; omega) I' ?_
        · rw [upd_ne (Ne.symm hne)]
          exact ea
        · have eu : upd (upd H dx (exd dx ((v, y) :: fs))) dx (exd dx ((ns.zip ys).reverse ++ (v, y) :: fs)) = upd H dx (exd dx (((v :: ns).zip (y :: ys)).reverse ++ fs)) := by
            funext b
            by_cases hb : b = dx
            · rw [hb, upd_same, upd_same, List.zip_cons_cons, List.reverse_cons, List.append_assoc]
              rfl
            · rw [upd_ne hb, upd_ne hb, upd_ne hb]
          rw [eu]
          exact q
      | ret w => exact q1
      | brk => exact q1
      | cont => exact q1
/-- all the fields -/
theorem sup_first (T : OexC X.K C) (hself : X.N[0]? = some ("self" : Str)) (vself : Vis X.env.scope "self") {ns : List Str} {rest : List Stmt} {ys : List V} {D : Ends} (hr : supRest ns rest = true) (hne : ns ≠ []) (hl : ys.length = ns.length)
    (hn : ∀ n ∈ ns, OkN n ∧ Vis X.env.scope n) (hz : ∀ p ∈ ns.zip ys, ∃ i : Nat, X.N[i]? = some p.1 ∧ σ[i]? = some (some p.2)) (hno : ∀ n ∈ ns, PySem.W.findIn X.K (.ref C) n = some none) (h0 : σ[0]? = some (some (.ref a)))
    (ea : H a = some (exo a C none)) (hL : ns.length ≤ 20) (I : Inv X pins σ H s) (q : ∀ dx, H dx = none → dx ≠ a → D.nx σ (upd (upd H dx (exd dx (ns.zip ys).reverse)) a (exo a C (some dx)))) :
    wpAny (model X.prog X.w) X.A (execs rest X.env) (SP X pins D) X.xe s := by
  cases ns with
  | nil => exact absurd rfl hne
  | cons v ns =>
    obtain ⟨p, p', pv, pos, r, rfl, h4⟩ := supRest_cons hr
    cases ys with
    | nil => cases hl
    | cons y ys =>
      obtain ⟨i, e1, e2⟩ := hz (v, y) (by rw [List.zip_cons_cons]; exact List.mem_cons_self)
      obtain ⟨⟨d1, d2⟩, vv⟩ := hn v List.mem_cons_self
      rw [List.length_cons] at hL
      refine wpAny_execs_cons (thn ((ps_ost (f := v) (p' := p') (pos := pos) (pe_var (i := 0) (pos := p) hself vself) (pe_var (pos := pv) e1 vv d1 d2)).run pins s σ H { D with nx := fun σ' H' => σ' = σ ∧ ∃ dx, H dx = none ∧ dx ≠ a ∧ H' = upd (upd H dx (exd dx [(v, y)])) a (exo a C (some dx)) } I
        ⟨y, e2, .ref a, h0, a, C, rfl, T, hno v List.mem_cons_self, .inl ⟨ea, fun dx h1 h2 => ⟨rfl, dx, h1, h2, rfl⟩⟩⟩) fun f s1 q1 => ?_)
      cases f with
      | next =>
        obtain ⟨σ', H', I', e3, dx, f1, f2, e4⟩ := q1
        subst e3 e4
        refine sup_rest (dx := dx) T hself vself f2 h0 (ns := ns) (rest := r) (ys := ys) (fs := [(v, y)]) h4 (by simpa using hl) (fun n hm => hn n (List.mem_cons_of_mem _ hm)) (fun p hp => hz p (by rw [List.zip_cons_cons]; exact List.mem_cons_of_mem _ hp)) (fun n hm => hno n (List.mem_cons_of_mem _ hm)) upd_same ?_ (by simp only [List.length_cons, List.length_nil]; omega) I' ?_
        · rw [upd_ne f2, upd_same]
        · have eu : upd (upd (upd H dx (exd dx [(v, y)])) a (exo a C (some dx))) dx (exd dx ((ns.zip ys).reverse ++ [(v, y)])) = upd (upd H dx (exd dx ((v :: ns).zip (y :: ys)).reverse)) a (exo a C (some dx)) := by
            funext b
            by_cases hb : b = dx
            · rw [hb, upd_same, upd_ne f2, upd_same, List.zip_cons_cons, List.reverse_cons]
            · rw [upd_ne hb]
              by_cases ha : b = a
              · rw [ha, upd_same, upd_same]
              · rw [upd_ne ha, upd_ne ha, upd_ne hb, upd_ne hb]
          rw [eu]
          exact q dx f1 f2
      | ret w => exact q1
      | brk => exact q1
      | cont => exact q1
end
end G
namespace G
open PySem PySem.Spec PySem.Calls PyProof.Rows L2
/-- the promise of such an __init__ -/
def spS (C : Addr) (ns : List Str) : Sp := fun vs H Q _ => ∃ (a : Addr) (ys : List V), vs = .ref a :: ys ∧ ys.length = ns.length ∧ H a = some (exo a C none) ∧ ∀ dx, H dx = none → dx ≠ a → Q .non (upd (upd H dx (exd dx (ns.zip ys).reverse)) a (exo a C (some dx)))
theorem supNames_ok {ns : List Str} (h : supNames ns = true) : (("self" : Str) :: ns).Nodup ∧ ns ≠ [] ∧ ns.length ≤ 20 ∧ ∀ n ∈ (("self" : Str) :: ns), OkN n := by
  obtain ⟨h1, h⟩ := He.ba h
  obtain ⟨h2, h⟩ := He.ba h
  obtain ⟨h3, h4⟩ := He.ba h
  refine ⟨of_decide_eq_true h1, of_decide_eq_true h2, of_decide_eq_true h3, fun n hn => ?_⟩
  obtain ⟨a, b⟩ := He.ba (List.all_eq_true.mp h4 n hn)
  exact ⟨by simpa using a, by simpa using b⟩
theorem drop_own (C : Addr) (l : List Value) : ((Value.ref C :: l).dropWhile (· != .ref C)).drop 1 = l := by
  simp [List.dropWhile_cons]
theorem sup_fn {CX : CXT} {P : Program} {w : World} {K : PySem.W.Frag} {mg : Str → Option Value} {base : Heap} {C f : Addr} {ns : List Str} {file : Str} {fd : FuncData} {name qual : Str} {params : Arguments} {as : List Expr} {rest : List Stmt} {scope : Scope} {kV doc pm ct : Value} {an : Option Addr} {cda cc : Addr} {p0 p1 p2 p3 p4 : Pos}
    (hP : SupP P file) (Z : SupC K C ns file) (F : SupFd K C f ns file fd name qual params as rest scope kV doc pm ct an cda cc p0 p1 p2 p3 p4) (hms : mg "super" = none) : FnOk P w K mg base CX 1 f fd (("self" : Str) :: ns) (spS C ns) := by
  obtain ⟨rfl, ⟨oc, od, osl, lk⟩, hargs, hline, hrest, hpar, hsc, hcode, hfile, hcell⟩ := F
  have S := supScope_ok hsc
  obtain ⟨nd, hne, hlen, hok⟩ := supNames_ok Z.names
  refine ⟨fun vs H Q E h => ?_, fun A outer s H args us vs Q E hr e0 hb hv hsp => ?_⟩
  · obtain ⟨a, ys, rfl, hl, _⟩ := h
    simp [hl]
  obtain ⟨a, ys, rfl, hl, ea, hQ⟩ := hsp
  have KX : K.In s.heap := e0.mod.kin.keeps fun b o e => (e0.bs b o e).1
  have lim : s.heap.NoLimit := e0.mod.nolimit.keeps fun b o e => (e0.bs b o e).1
  have hcc : base.IsCell cc (some (.ref C)) := by
    unfold cellIn at hcell
    split at hcell
    · rename_i c dd D sl ho
      have z := of_decide_eq_true hcell
      subst z
      exact ⟨_, e0.mod.kin _ _ ho, rfl⟩
    · cases hcell
  obtain ⟨ccl, cdd, fvs, ccs, tf, lkc, hvs⟩ : ∃ ccl cdd fvs ccs tf, K.lookup cda = some ⟨ccl, cdd, .fields fvs, ccs⟩ ∧ fvs[2]? = some (.str file tf) := by
    unfold fileIn at hfile
    split at hfile
    · rename_i c1 d1 fvs s1 ho
      split at hfile
      · rename_i fl tf hv2
        have z := of_decide_eq_true hfile
        subst z
        exact ⟨_, _, _, _, _, ho, hv2⟩
      · cases hfile
    · cases hfile
  refine PySem.ks_codeAny_call_defAt (fd := PySem.W.ksFn name qual params (.Expr (.Call (.Attribute (.Call (.Name "super" p0) [] [] p1) "__init__" p2) as [] p3) p4 :: rest) scope .none kV doc pm an (.ref cda) ct cc) (binds := (("self" : Str) :: ns).zip us) hr.depth (KX _ _ lk) rfl lim (PySem.W.codeRec_of KX hcode) rfl hb S.nocell
    (fun p hp => S.loc _ (List.of_mem_zip hp).1) (fun h₁ hns kp => ?_) S.co S.gen S.kind
  have I : Inv (cxS CX P w K mg base (("self" : Str) :: ns) qual scope f cda cc A outer s H E) [] ((V.ref a :: ys).map some) H { s with heap := h₁, toks := s.toks + ((("self" : Str) :: ns).zip us).length } :=
    sup_start S nd hr.hd e0 hcc (by simp [hl]) hv hns kp
  have hself : (cxS CX P w K mg base (("self" : Str) :: ns) qual scope f cda cc A outer s H E).N[0]? = some ("self" : Str) := rfl
  have vself : Vis scope "self" := .inl (S.loc _ List.mem_cons_self)
  have hn : ∀ n ∈ ns, OkN n ∧ Vis scope n := fun n hm => ⟨hok n (List.mem_cons_of_mem _ hm), .inl (S.loc _ (List.mem_cons_of_mem _ hm))⟩
  have hz : ∀ p ∈ ns.zip ys, ∃ i : Nat, (("self" : Str) :: ns)[i]? = some p.1 ∧ ((V.ref a :: ys).map some)[i]? = some (some p.2) := fun p hp => by
    obtain ⟨i, hi⟩ := List.mem_iff_getElem?.mp hp
    obtain ⟨i1, i2⟩ := List.getElem?_zip_eq_some.mp hi
    exact ⟨i + 1, by simpa using i1, by simpa using i2⟩
  have hno : ∀ n ∈ ns, PySem.W.findIn K (.ref C) n = some none := Z.no
  refine PySem.ks_wpAt_mono (Q := SP (cxS CX P w K mg base (("self" : Str) :: ns) qual scope f cda cc A outer s H E) [] { nx := fun _ H' => Q .non H', rt := Q }) (E := (cxS CX P w K mg base (("self" : Str) :: ns) qual scope f cda cc A outer s H E).xe) ?_ (fun fl s' hs => ?_) (fun _ _ h => h)
  · obtain ⟨hpa, hany⟩ := sup_pa (X := cxS CX P w K mg base (("self" : Str) :: ns) qual scope f cda cc A outer s H E) (σ := (V.ref a :: ys).map some) hargs hl hn hz
    show PySem.wpAt (model P w) (A.deeper (PySem.W.ksEnv qual scope s.heap.objs.size f (.ref cda) cc)) (.func _ (PySem.W.ksEnv qual scope s.heap.objs.size f (.ref cda) cc)) (execs _ (PySem.W.ksEnv qual scope s.heap.objs.size f (.ref cda) cc)) _ _ _
    refine PySem.ks_wpAt_execs_cons (PySem.ks_wpAt_Expr_any (PySem.ks_wpAt_MethodCall ?_ (sup_eval hline (hany p3) (by rw [supArgs_len hargs]; omega))) (by
      show ((scope.kind == .module) && _) = false
      rw [S.kind]
      rfl))
    obtain ⟨e0', as', has, he⟩ : ∃ e0' as', as = e0' :: as' ∧ starEach (e0' :: as') (PySem.W.ksEnv qual scope s.heap.objs.size f (.ref cda) cc) = (false, eval e0' (PySem.W.ksEnv qual scope s.heap.objs.size f (.ref cda) cc)) :: starEach as' (PySem.W.ksEnv qual scope s.heap.objs.size f (.ref cda) cc) := by
      cases ns with
      | nil => exact absurd rfl hne
      | cons n ns' =>
        obtain ⟨pn, r, e, _⟩ := supArgs_cons hargs
        exact ⟨_, _, e, rfl⟩
    generalize hs1 : ({ s with heap := h₁, toks := s.toks + ((("self" : Str) :: ns).zip us).length } : Shared) = s1 at I ⊢
    clear hs1 hns kp
    obtain ⟨params1, hp1⟩ : ∃ ar : Arg, (params.posonlyargs ++ params.args).head? = some ar ∧ ar.arg = "self" := by
      unfold supPar at hpar
      split at hpar
      · rename_i as'
        have z := of_decide_eq_true hpar
        match as', z with
        | ar :: _, z => exact ⟨ar, rfl, (List.cons.inj z).1⟩
      · cases hpar
    obtain ⟨hp1, hself1⟩ := hp1
    obtain ⟨mb, hb1, hb2⟩ := I.mod.blt
    refine PySem.ks_wpAt_super_base (env := PySem.W.ksEnv qual scope s.heap.objs.size f (.ref cda) cc) S.sup S.cls (by decide) rfl (I.kIn _ _ lk) rfl hp1 rfl (I.kIn _ _ lkc) rfl hvs hP.ok.1 hP.ok.2 ?_
    refine PySem.W.ks_loadName_global S.kind S.sup (PySem.Calls.loadGlobal_builtin (env := PySem.W.ksEnv qual scope s.heap.objs.size f (.ref cda) cc) (I.mod.glob.keeps I.bk) hms (hb1.keeps I.bk) ((hb2 _ (by decide)).trans (by rfl)) ⟨rfl, ?_⟩)
    refine PySem.wpAny_loadName_free S.kind S.cls rfl (v := .ref C) ?_ ?_
    · obtain ⟨o, ho, hd⟩ := hcc
      exact ⟨o, I.bk _ _ ho, hd⟩
    obtain ⟨m, hm, hlo⟩ := I.loc
    obtain ⟨u0, ru, hlk⟩ := hlo 0 "self" (.ref a) rfl rfl vself
    obtain rfl : u0 = Value.ref a := ru
    have hm0 : m "self" = some (.ref a) := by
      rcases hlk with ⟨_, h⟩ | ⟨h, _⟩
      · exact h
      · have q := S.loc "self" List.mem_cons_self
        rcases h with h | h <;> rw [show scope.names.lookup ("self" : Str) = _ from h] at q <;> cases q
    rw [hself1]
    refine PySem.wpAny_loadName_local S.kind (S.loc _ List.mem_cons_self) hm hm0 ?_
    obtain ⟨nm, qn, N, bs, bm, sn, sub, ab, col, dd, k0, k1, k2, k3, k5, hC, hbm, hal⟩ := oexB_ok Z.raw
    refine PySem.ks_wpAny_isType_cls (I.kIn _ _ hC) rfl ⟨rfl, ?_⟩
    obtain ⟨t1, ho⟩ := exo_at I.hok ea
    obtain ⟨hp, g, d, t, os⟩ := s1
    refine PySem.ks_wpAny_call_super (I.kIn _ _ hC) rfl ho rfl (fun c z => by cases z) (PySem.W.looks_subIn I.kIn Z.own) (fun h' hso k => ?_)
    have I1 := I.kept (t' := t) k
    have hxC : a ≠ C := fun z => by
      have y := I.kIn _ _ hC
      rw [← z, ho] at y
      cases y
    have hcl : PySem.W.clsIn K C = some { name := nm, bases := bs, mro := .ref C :: bm, ns := N, qualname := qn, hasDict := true, slotNames := sn, subclasses := sub, abstract := ab, collection := col, hasDel := false } := by
      unfold PySem.W.clsIn
      rw [hC] <;> rfl
    have hI : PySem.W.Looks (model P w) h' (isInstance (.ref a) (.type "ValueError")) true := by
      have J : PySem.W.InstAt h' a { cls := .ref C, dict := none, data := .fields #[.ref t1, .none, .none, .none, .bool false, .none] } C none := ⟨k _ _ ho, rfl, rfl, trivial⟩
      exact J.type.andThen (PySem.W.looks_subIn I1.kIn Z.ve)
    refine PySem.W.kxs_getMethod PySem.W.kxs_ValueError hso (PySem.W.looks_opaque I1.kIn Z.st) (l₀ := .ref C :: bm) (l := bm) (fun A Q E s k q => wpAny_bind ((PySem.W.looks_clsIn I1.kIn hcl) A _ E s k (wpAny_pure q))) (drop_own C bm) I1.kIn hal hI hxC (by decide) ?_
    have I2 := I1.kept (t' := t + 1) (h' := h'.push (PySem.W.kxs_mw "ValueError.__init__" a)) (fun b o e => Heap.get?_push_of_some _ e)
    have I3 : Inv (cxS CX P w K mg base (("self" : Str) :: ns) qual scope f cda cc A outer s H E) [(h'.objs.size, PySem.W.kxs_mw "ValueError.__init__" a)] ((V.ref a :: ys).map some) H ⟨h'.push (PySem.W.kxs_mw "ValueError.__init__" a), g, d, t + 1, os⟩ := I2.pins_of fun p hp => by
      rw [List.mem_singleton] at hp
      subst hp
      refine ⟨Heap.get?_push_size _ rfl, I1.hok.fresh (Nat.le_refl _), fun z => ?_, I1.nofs (Nat.le_refl _), fun v z => by cases z⟩
      have y := I1.lt
      rw [← z] at y
      exact Nat.lt_irrefl _ y
    rw [has] at hargs hpa hany ⊢
    refine PySem.W.kxs_callWith (i := "ValueError.__init__") (x := a) (hany p3) ?_
    have hq := hpa.run p3 _ _ _ H (fun vs2 H2 => vs2 = ys ∧ H2 = H) I3 ⟨rfl, rfl, rfl⟩
    rw [show starEach (e0' :: as') (cxS CX P w K mg base (("self" : Str) :: ns) qual scope f cda cc A outer s H E).env = _ from he] at hq
    rw [he]
    refine evalArgs_plain (wpAny_mono hq (fun us2 s3 ⟨vs2, H2, I4, rv, e5, e6⟩ => ?_) fun _ _ z => z)
    subst e5 e6
    obtain ⟨hu, _⟩ := I4.pin (h'.objs.size, PySem.W.kxs_mw "ValueError.__init__" a) (List.mem_append_right _ List.mem_cons_self)
    refine ⟨hu, ?_⟩
    refine sup_call Z.oex I4 ea hu (by
      show us2.length ≤ sizeLine
      rw [← rv.length, hl, sizeLine_eq]
      omega) fun s4 I5 => ?_
    refine PySem.wpAt_of_wpAny ?_
    have I6 : Inv (cxS CX P w K mg base (("self" : Str) :: ns) qual scope f cda cc A outer s H2 E) [] ((V.ref a :: vs2).map some) H2 s4 := I5.pins_of fun p hp => by cases hp
    exact sup_first (X := cxS CX P w K mg base (("self" : Str) :: ns) qual scope f cda cc A outer s H2 E) Z.oex hself vself hrest hne hl hn hz hno rfl ea hlen I6 fun dx h1 h2 => hQ dx h1 h2
  · have fin : ∀ {σ' : L2.St} {H' : Hp} {v : V} {u : Value}, Inv (cxS CX P w K mg base (("self" : Str) :: ns) qual scope f cda cc A outer s H E) [] σ' H' s' → L2.RelV v u → Q v H' → CE outer P w H s Q u s' :=
      fun {σ' H' v u} J rv q => ⟨v, H', J.os, J.bare, J.base, J.hok, rv, q⟩
    cases fl with
    | ret u =>
      obtain ⟨v, σ', H', J, rv, q⟩ := hs
      exact fin J rv q
    | next =>
      obtain ⟨σ', H', J, q⟩ := hs
      exact fin (v := V.non) (u := Value.none) J rfl q
    | brk =>
      obtain ⟨_, _, _, q⟩ := hs
      exact False.elim q
    | cont =>
      obtain ⟨_, _, _, q⟩ := hs
      exact False.elim q
end G
namespace G
open PySem PySem.Spec PySem.Calls PyProof.Rows L2
theorem zip_lookup : ∀ {ps : List Str} {us : List Value} {n : Str}, us.length = ps.length → n ∈ ps → ((ps.zip us).lookup n).isNone = false
  | [], _, _, _, h => by cases h
  | p :: ps, [], _, h, _ => by cases h
  | p :: ps, u :: us, n, h, hm => by
    rw [List.zip_cons_cons]
    by_cases e : n = p
    · subst e
      simp [List.lookup]
    · have hb : (n == p) = false := by simpa using e
      simp only [List.lookup, hb]
      exact zip_lookup (by simpa using h) ((List.mem_cons.mp hm).resolve_left e)
theorem fm_congr {α β : Type} {f g : α → Option β} : ∀ {l : List α}, (∀ a ∈ l, f a = g a) → l.filterMap f = l.filterMap g
  | [], _ => rfl
  | a :: l, h => by
    rw [List.filterMap_cons, List.filterMap_cons, h a List.mem_cons_self, fm_congr fun b hb => h b (List.mem_cons_of_mem _ hb)]
theorem zip_fm : ∀ {ps : List Str} {us : List Value}, ps.Nodup → us.length = ps.length → ps.filterMap (fun n => Option.map (fun x => (n, x)) (List.lookup n (ps.zip us))) = ps.zip us
  | [], _, _, _ => rfl
  | p :: ps, [], _, h => by cases h
  | p :: ps, u :: us, nd, h => by
    rw [List.nodup_cons] at nd
    rw [List.zip_cons_cons, List.filterMap_cons]
    have e1 : List.lookup p ((p, u) :: ps.zip us) = some u := by simp [List.lookup]
    rw [e1]
    show (p, u) :: _ = _
    congr 1
    refine (fm_congr fun n hn => ?_).trans (zip_fm nd.2 (by simpa using h))
    have hb : (n == p) = false := by
      have z : n ≠ p := fun e => nd.1 (e ▸ hn)
      simpa using z
    simp only [List.lookup, hb]
theorem sup_binds {ns : List Str} {name qual : Str} {params : Arguments} {body : List Stmt} {scope : Scope} {kV doc pm cdv ct : Value} {an : Option Addr} {cc : Addr} (nd : (("self" : Str) :: ns).Nodup) (hp : supPar ns params = true) (us : List Value) (hl : us.length = (("self" : Str) :: ns).length) :
    bindArgs (PySem.W.ksFn name qual params body scope .none kV doc pm an cdv ct cc) ⟨us, []⟩ = pure ((("self" : Str) :: ns).zip us) := by
  unfold supPar at hp
  split at hp
  · rename_i as
    have e := of_decide_eq_true hp
    have hlen : as.length = us.length := by rw [hl, ← e, List.length_map]
    have hf : (as.map (·.arg)).filter (fun n => (((as.map (·.arg)).zip us).lookup n).isNone) = [] := by
      rw [List.filter_eq_nil_iff]
      intro n hn
      rw [zip_lookup (by rw [List.length_map, hlen]) hn]
      exact Bool.false_ne_true
    rw [← e]
    unfold bindArgs
    have ht : List.take us.length (as.map (·.arg)) = as.map (·.arg) := List.take_of_length_le (by rw [List.length_map, hlen]; exact Nat.le_refl _)
    have nd' : (as.map (·.arg)).Nodup := e ▸ nd
    have hz := zip_fm (us := us) nd' (by rw [List.length_map, hlen])
    simp [seqItems?, hlen, notAStandIn, ht, hf]
    rw [← List.filterMap_map, hz]
  · cases hp
/-- an argument list, its wish made weaker -/
def taM (ta : TA) : TA := fun σ H Q => ∃ R : List V → Hp → Prop, ta σ H R ∧ ∀ vs H1, R vs H1 → Q vs H1
theorem pa_M {X : Cx} {es : List Expr} {ta : TA} (h : PA X es ta) : PA X es (taM ta) := ⟨fun pos pins s σ H Q I ⟨R, h1, h2⟩ => wpAny_mono (h.run pos pins s σ H R I h1) (fun us s' ⟨vs, H', I', r, q⟩ => ⟨vs, H', I', r, h2 _ _ q⟩) fun _ _ z => z⟩
/-- C(e, ..), made to be raised -/
def tMkS (C : Addr) (ns : List Str) (ta : TA) : L2.St → Hp → XK → Prop := fun σ H Q => ta σ H fun vs H1 => vs.length = ns.length ∧ ∀ d, H1 d = none → Q (.ref C) (some d) (upd H1 d (.xd (ns.zip vs).reverse))
theorem pmk_sup {X : Cx} {x : Str} {C : Addr} {ns : List Str} {file : Str} {ta : TA} {e : Expr} {es : List Expr} {p pos : Pos} (hP : SupP X.prog file) (Z : SupC X.K C ns file) (hms : X.mg "super" = none) (hr : Room 2 X.A) (hg : Gl X x) (hm : X.mg x = some (.ref C)) (ha : PA X (e :: es) ta)
    (hdb : (x == ("__debug__" : Str)) = false := by decide) (he : starEach (e :: es) X.env = (false, eval e X.env) :: starEach es X.env := by rfl) (hpl : (backTo pos (starEach es X.env)).any (·.1) = false := by rfl) :
    PMk X (.Call (.Name x p) (e :: es) [] pos) (tMkS C ns ta) := by
  obtain ⟨f, fd, iC, tI, name, qual, params, as, rest, scope, kV, doc, pm, ct, an, cda, cc, p0, p1, p2, p3, p4, F⟩ := Z.fn
  have FO : FnOk X.prog X.w X.K X.mg X.base CX0 1 f fd (("self" : Str) :: ns) (spS C ns) := sup_fn hP Z F hms
  obtain ⟨nd, hne, hlen, hok⟩ := supNames_ok Z.names
  have hb : L2.Binds X.K fd (("self" : Str) :: ns) [] := by
    rw [F.eq]
    exact Binds.all fun us hl => sup_binds nd F.par us hl
  intro pins s σ H Q I h
  refine pmk_oex (dvs := []) (ta := taM ta) Z.oex iC tI FO hr hb .nil pass0 hg hm (pa_M ha) hdb he hpl pins s σ H Q I ?_
  refine ⟨_, h, fun vs H1 ⟨hl, hq⟩ => ⟨by rw [hl]; omega, fun a hn => ?_⟩⟩
  rw [List.append_nil]
  refine ⟨a, vs, rfl, hl, upd_same, fun dx hd hda => ⟨rfl, dx, (ns.zip vs).reverse, upd_same, ?_, ?_, ?_⟩⟩
  · rw [upd_ne hda, upd_same]
  · rw [upd_ne hda] at hd
    exact hd
  · rw [upd_ne hda] at hd
    have eu : upd (del (upd (upd (upd H1 a (exo a C none)) dx (exd dx (ns.zip vs).reverse)) a (exo a C (some dx))) a) dx (.xd (ns.zip vs).reverse) = upd H1 dx (.xd (ns.zip vs).reverse) := by
      funext b
      by_cases hb : b = dx
      · rw [hb, upd_same, upd_same]
      · rw [upd_ne hb, upd_ne hb]
        by_cases ha : b = a
        · rw [ha, del_same, hn]
        · rw [del_ne ha, upd_ne ha, upd_ne hb, upd_ne ha]
    rw [eu]
    exact hq dx hd
/-- raise C(e, ..) -/
theorem ps_raiseS {X : Cx} {W : WX} {x : Str} {C : Addr} {ns : List Str} {file : Str} {ta : TA} {e : Expr} {es : List Expr} {p pos pos' : Pos} (hc : X.calm = true) (tk : Takes X W) (hP : SupP X.prog file) (Z : SupC X.K C ns file) (hms : X.mg "super" = none) (hr : Room 2 X.A) (hg : Gl X x) (hm : X.mg x = some (.ref C)) (ha : PA X (e :: es) ta)
    (hdb : (x == ("__debug__" : Str)) = false := by decide) (he : starEach (e :: es) X.env = (false, eval e X.env) :: starEach es X.env := by rfl) (hpl : (backTo pos (starEach es X.env)).any (·.1) = false := by rfl) :
    PS X (.Raise (some (.Call (.Name x p) (e :: es) [] pos)) none pos') (fun _ σ H => tMkS C ns ta σ H fun cls d H' => W cls d σ H') := ps_raise hc tk (pmk_sup hP Z hms hr hg hm ha hdb he hpl)
end G
namespace G
open PySem PySem.Spec PySem.Calls PyProof.Rows L2
/-! ### stepping: raise C(e, ..), error.f; static methods and classes by keywords; bool(o); [..] * n; texts -/
section
variable {σ : L2.St} {H : Hp} {Q : VK} {QX : XK} {C a dd l : Addr} {ns : List Str} {ta : TA} {te : TE} {n m f : Str} {v u : V} {cls : Value} {d : Option Addr} {fs : List (Str × V)} {xs ys : List V} {k : Int}
def MkSK (C : Addr) (ns : List Str) (Q : XK) : List V → Hp → Prop := fun vs H1 => vs.length = ns.length ∧ ∀ d, H1 d = none → Q (.ref C) (some d) (upd H1 d (.xd (ns.zip vs).reverse))
theorem st_mkS (q : ta σ H fun vs H1 => MkSK C ns QX vs H1) : tMkS C ns ta σ H QX := q
theorem mkS1 (z : ∀ d H2, H d = none → Kp H H2 → H2 d = some (.xd [(n, v)]) → QX (.ref C) (some d) H2) : MkSK C [n] QX [v] H := ⟨rfl, fun d hd => z d _ hd (Kp.new hd) upd_same⟩
theorem mkS2 (z : ∀ d H2, H d = none → Kp H H2 → H2 d = some (.xd [(m, u), (n, v)]) → QX (.ref C) (some d) H2) : MkSK C [n, m] QX [v, u] H := ⟨rfl, fun d hd => z d _ hd (Kp.new hd) upd_same⟩
def XfK (a : Addr) (cls : Value) (d : Option Addr) (C : Addr) (f : Str) (Q : VK) : V → Hp → Prop := fun x H1 => x = .ref a ∧ cls = .ref C ∧ ∃ (dd : Addr) (fs : List (Str × V)) (v : V), d = some dd ∧ H1 dd = some (.xd fs) ∧ fs.lookup f = some v ∧ Q v H1
theorem st_xf (q : te σ H fun x H1 => XfK a cls d C f Q x H1) : tXf a cls d C f te σ H Q := q
theorem xfK (e : H dd = some (.xd fs)) (l : fs.lookup f = some v) (q : Q v H) : XfK a (.ref C) (some dd) C f Q (.ref a) H := ⟨rfl, rfl, dd, fs, v, rfl, e, l, q⟩
theorem rep_l (h : H l = some (.lst xs)) (h1 : 0 ≤ k ∧ k < 1000) (h2 : xs.length ≤ 1000) (e : (List.replicate k.toNat xs).flatten = ys) (q : ∀ p H', H p = none → Kp H H' → H' p = some (.lst ys) → Q (.ref p) H') : rRep (.ref l) (.int k) H Q :=
  ⟨l, k, xs, rfl, rfl, h, by omega, by omega, by
    have h3 : k.toNat ≤ 1000 := by omega
    have := Nat.mul_le_mul h2 h3
    rw [sizeLine_eq]
    omega, fun p hp => by
    rw [e]
    exact q p _ hp (Kp.new hp) upd_same⟩
end
section
variable {X : Cx} {CX : CXT} {k n : Nat} {C p g f : Addr} {mc : Value} {sp : Sp} {E : XK} {o e : Expr} {es : List Expr} {x m : Str} {pos apos pp : Pos} {ta : TE} {t tk : TA} {pl : Sem Bool} {fd : FuncData} {ps ks : List Str} {dvs : List V} {ds : List Value} {kws : List Keyword}
/-- C.m(k = v, ..), m a static method -/
def tSMK (C : Addr) (sp : Sp) (gV : List V → List V) (E : XK) (ta : TE) (tk : TA) : TE := fun σ H Q => ta σ H fun x H1 => x = .ref C ∧ tk σ H1 fun zs H2 => sp (gV zs) H2 Q E
theorem pe_smethK {gg : List Value → List Value} {gV : List V → List V} (he : PE X o ta) (r : ClX.CRead X.K C mc) (c : SMet X.K C mc m g) (F : FnG X.prog X.w X.K X.mg X.base CX k g fd ps sp) (hr : RoomG k X.A) (hb : KB0 X.K fd 0 ps ks gg gV) (hx : Passes CX X E) (hkw : PK X kws tk)
    (hall : (backToKw pos (keywordEach kws X.env)).all (·.1.isSome) = true := by rfl) (hks : (backToKw pos (keywordEach kws X.env)).filterMap (·.1) = ks := by rfl)
    (hpl : ((backTo pos (starEach [] X.env)).any (·.1) || (backToKw pos (keywordEach kws X.env)).any (·.1.isNone)) = false := by rfl)
    (ht : eval (.Call (.Attribute o m apos) [] kws pos) X.env = (do
      let ov ← eval o X.env
      standAt apos.atName
      let (f, first) ← holding [ov] (getMethod ov m pl)
      callWith pos f first (backTo pos (starEach [] X.env)) (backToKw pos (keywordEach kws X.env))) := by rfl) :
    PE X (.Call (.Attribute o m apos) [] kws pos) (tSMK C sp gV E ta tk) := by
  refine ⟨fun pins s σ H Q I h => ?_⟩
  refine PySem.W.methodCall_KW (pl := pl) (thn (he.run pins s σ H _ I h) fun u s1 ⟨x, H1, I1, rx, ex, q⟩ => ?_) ht
  subst ex
  obtain rfl : u = Value.ref C := rx
  obtain ⟨p, rest, h1, h2⟩ := c.ex
  refine PySem.W.method_cls I1.kIn r.ga (PySem.W.cls_bind I1.kIn r.rd h1 (wpAny_call (PySem.W.sm_get (s := { s1 with toks := s1.toks + 1 }) I1.kIn h2 (PySem.W.handed_on rfl ?_))))
  have I2 := I1.tok (s1.toks + 1)
  refine PySem.W.callWith_KW0 (first := []) (h₀ := X.base) I2.ok.mod.kin c.kp hall (thn (hkw.run pos pins _ σ H1 _ I2 q) fun ws s2 ⟨zs, H2, I3, rz, q2⟩ => ⟨I3.kIn, ?_⟩) hpl
  rw [hks]
  exact run_kb0 (us := []) (vs := []) F hr hb hx I3 rfl .nil rz q2
/-- C(k = v, ..) -/
def tMakeKG (C : Addr) (m : Nat) (sp : Sp) (gV : List V → List V → List V) (E : XK) (tk : TA) : TE := fun σ H Q => tk σ H fun zs H2 => zs.length = m ∧ ∀ x dx, H2 x = none → H2 dx = none → dx ≠ x →
  sp (gV [.ref x] zs) (upd (upd H2 dx (.own x)) x (.ins C dx [])) (fun v H3 => v = .non ∧ Q (.ref x) H3) E
theorem pe_makeKG {gg : List Value → List Value → List Value} {gV : List V → List V → List V} (M : Mk X.K C f) (F : FnG X.prog X.w X.K X.mg X.base CX k f fd ps sp) (hr : RoomG (k + 1) X.A) (hg : Gl X x) (hm : X.mg x = some (.ref C)) (hb : KBn X.K fd ps 1 ks gg gV) (hx : Passes CX X E) (hkw : PK X kws tk)
    (hall : (backToKw pos (keywordEach kws X.env)).all (·.1.isSome) = true := by rfl) (hks : (backToKw pos (keywordEach kws X.env)).filterMap (·.1) = ks := by rfl) (hdb : (x == ("__debug__" : Str)) = false := by decide)
    (hpl : ((backTo pos (starEach [] X.env)).any (·.1) || (backToKw pos (keywordEach kws X.env)).any (·.1.isNone)) = false := by rfl) :
    PE X (.Call (.Name x pp) [] kws pos) (tMakeKG C ks.length sp gV E tk) := by
  refine ⟨fun pins s σ H Q I h => ?_⟩
  refine wpAny_Call_Name_kw (ld_glob I hg hm ?_ hdb)
  refine PySem.W.callWith_KW0 (h₀ := X.base) I.ok.mod.kin M.kp hall ?_ hpl
  refine thn (hkw.run pos pins s σ H _ I h) fun ws s2 ⟨zs, H2, I2, rz, l2, q2⟩ => ⟨I2.kIn, ?_⟩
  rw [hks]
  have hq := q2 (s2.heap.objs.size + 1) s2.heap.objs.size (I2.hok.fresh (Nat.le_add_right _ 1)) (I2.hok.fresh (Nat.le_refl _)) (Nat.ne_of_lt (Nat.lt_add_one _))
  have J := Inv.made (C := C) I2
  have rv : Vals [V.ref (s2.heap.objs.size + 1)] [Value.ref (s2.heap.objs.size + 1)] := .cons rfl .nil
  have run := run_at F (hr.make C [] (ks.zip ws)) (J.env0.make C [] (ks.zip ws)) hx J (hb.to _ [Value.ref (s2.heap.objs.size + 1)] ws J.kIn rfl (rz.length.symm.trans l2)) (hb.rel rv rz) hq
  refine wpAny_call (make_map (f := f) I2.kIn M.makes M.init (beq_iff_eq.mp M.fn) (codeAny_mono run fun r s' z => ?_))
  match r, z with
  | .error _, z => exact z
  | .ok (.ret u), ⟨v, H', J', rn, ev, q⟩ =>
    subst ev
    exact ⟨rn, V.ref (s2.heap.objs.size + 1), H', J', rfl, q⟩
end
/-! lists of truths as a text; lists of texts -/
section
variable {KF : PySem.W.Frag} {H : Hp} {Q : VK} {a d : Addr} {b0 b1 b2 b3 : Bool}
theorem repr_l3 (h : SqL KF H a [.bl b0, .bl b1, .bl b2]) (q : Q (.str (PyData.shown (.list [.bool b0, .bool b1, .bool b2]))) H) : rReprG KF [.ref a] H Q :=
  ⟨.ref a, .list [.bool b0, .bool b1, .bool b2], rfl, .lst h (.cons (.bl _) (.cons (.bl _) (.cons (.bl _) .nil))), by simp [PyData.showable, PyData.showableAll], by rfl, by
    have h0 := shown_b b0
    have h1 := shown_b b1
    have h2 := shown_b b2
    have e : PyData.shown (.list [.bool b0, .bool b1, .bool b2]) = ("[" : Str) ++ (PyData.shown (.bool b0) ++ (", " : Str) ++ (PyData.shown (.bool b1) ++ (", " : Str) ++ PyData.shown (.bool b2))) ++ ("]" : Str) := by
      simp only [PyData.shown_list, PyData.shownAll_cons, PyData.shownAll_nil]
      rfl
    rw [e, sizeLine_eq]
    simp only [strLen_append]
    have : ("[" : Str).length = 1 := by decide
    have : (", " : Str).length = 2 := by decide
    have : ("]" : Str).length = 1 := by decide
    omega, by simp [PyData.depth, PyData.depthAll], q⟩
theorem repr_l4 (h : SqL KF H a [.bl b0, .bl b1, .bl b2, .bl b3]) (q : Q (.str (PyData.shown (.list [.bool b0, .bool b1, .bool b2, .bool b3]))) H) : rReprG KF [.ref a] H Q :=
  ⟨.ref a, .list [.bool b0, .bool b1, .bool b2, .bool b3], rfl, .lst h (.cons (.bl _) (.cons (.bl _) (.cons (.bl _) (.cons (.bl _) .nil)))), by simp [PyData.showable, PyData.showableAll], by rfl, by
    have h0 := shown_b b0
    have h1 := shown_b b1
    have h2 := shown_b b2
    have h3 := shown_b b3
    have e : PyData.shown (.list [.bool b0, .bool b1, .bool b2, .bool b3]) = ("[" : Str) ++ (PyData.shown (.bool b0) ++ (", " : Str) ++ (PyData.shown (.bool b1) ++ (", " : Str) ++ (PyData.shown (.bool b2) ++ (", " : Str) ++ PyData.shown (.bool b3)))) ++ ("]" : Str) := by
      simp only [PyData.shown_list, PyData.shownAll_cons, PyData.shownAll_nil]
      rfl
    rw [e, sizeLine_eq]
    simp only [strLen_append]
    have : ("[" : Str).length = 1 := by decide
    have : (", " : Str).length = 2 := by decide
    have : ("]" : Str).length = 1 := by decide
    omega, by simp [PyData.depth, PyData.depthAll], q⟩
theorem repr_l2 (h : SqL KF H a [.bl b0, .bl b1]) (q : Q (.str (PyData.shown (.list [.bool b0, .bool b1]))) H) : rReprG KF [.ref a] H Q :=
  ⟨.ref a, .list [.bool b0, .bool b1], rfl, .lst h (.cons (.bl _) (.cons (.bl _) .nil)), by simp [PyData.showable, PyData.showableAll], by rfl, by
    have h0 := shown_b b0
    have h1 := shown_b b1
    have e : PyData.shown (.list [.bool b0, .bool b1]) = ("[" : Str) ++ (PyData.shown (.bool b0) ++ (", " : Str) ++ PyData.shown (.bool b1)) ++ ("]" : Str) := by
      simp only [PyData.shown_list, PyData.shownAll_cons, PyData.shownAll_nil]
      rfl
    rw [e, sizeLine_eq]
    simp only [strLen_append]
    have : ("[" : Str).length = 1 := by decide
    have : (", " : Str).length = 2 := by decide
    have : ("]" : Str).length = 1 := by decide
    omega, by simp [PyData.depth, PyData.depthAll], q⟩
theorem strOk_of (s : String) : PyData.strOk (Str.ofString s) = true := by
  rw [Str.ofString_eq_toList]
  unfold PyData.strOk
  simp only [Array.all_eq_true_iff_forall_mem, decide_eq_true_eq]
  intro c hc
  rw [List.mem_toArray, List.mem_map] at hc
  obtain ⟨x, _, rfl⟩ := hc
  have h : x.toNat < 0xd800 ∨ (0xdfff < x.toNat ∧ x.toNat < 0x110000) := x.valid
  rcases h with h | h
  · omega
  · exact h.2
theorem strOk_app (s t : Str) (h1 : PyData.strOk s = true) (h2 : PyData.strOk t = true) : PyData.strOk (s ++ t) = true := by
  unfold PyData.strOk at *
  have e : (s ++ t).cps = s.cps ++ t.cps := rfl
  rw [e, Array.all_append, h1, h2]
  rfl
theorem strOk_t2 (i j : Int) : PyData.strOk (PyData.shown (.tuple [.int i, .int j])) = true := by
  have e : PyData.shown (.tuple [.int i, .int j]) = ("(" : Str) ++ (PyData.shown (.int i) ++ (", " : Str) ++ PyData.shown (.int j)) ++ (")" : Str) := by
    simp only [PyData.shown_tuple, PyData.shownAll_cons, PyData.shownAll_nil]
    rfl
  rw [e]
  exact strOk_app _ _ (strOk_app _ _ (by decide +kernel) (strOk_app _ _ (strOk_app _ _ (by rw [PyData.shown_int]; exact strOk_of _) (by decide +kernel)) (by rw [PyData.shown_int]; exact strOk_of _))) (by decide +kernel)
end
end G
namespace G
open PySem PySem.Spec PyProof.Rows L2
/-! ### lists and tuples alike -/
def SqX (H : Hp) (a : Addr) (xs : List V) : Prop := H a = some (.lst xs) ∨ H a = some (.tup xs)
section
variable {K : PySem.W.Frag} {H H' H1 : Hp} {Q : VK} {σ : L2.St} {a p : Addr} {xs zs : List V} {n : L2.St → Hp → Prop} {r : VK} {b c : L2.St → Hp → Prop} {ts : TS} {tt : TT} {te : TE} {vs : List Nat} {σ0 : L2.St}
theorem SqX.kp (k : Kp H H') (h : SqX H a xs) : SqX H' a xs := h.elim (fun e => .inl (k _ _ e)) fun e => .inr (k _ _ e)
/-- the walk over it -/
def ItX (K : PySem.W.Frag) (H : Hp) (a : Addr) (xs : List V) (J : It) : Prop := (J = Itl K a ∧ H a = some (.lst xs)) ∨ (J = Itt K a ∧ H a = some (.tup xs))
def iVarX (K : PySem.W.Frag) (i : Nat) : TI := fun σ H R => iList K (tVar i) σ H R ∨ iTup K (tVar i) σ H R
theorem pi_varX {X : Cx} {tg l : Expr} {i : Nat} (hl : PE X l (tVar i)) : PI X tg l (iVarX X.K i) := ⟨fun pins s σ H R I h => h.elim ((pi_list hl).run pins s σ H R I) ((pi_tup hl).run pins s σ H R I)⟩
theorem st_varX {i : Nat} {R : It → Hp → Prop} (hv : σ[i]? = some (some (.ref a))) (h : SqX H a xs) (q : ∀ J, ItX K H a xs J → R J H) : iVarX K i σ H R := by
  rcases h with h | h
  · exact .inl ⟨_, hv, a, rfl, ⟨xs, .of h⟩, q _ (.inl ⟨rfl, h⟩)⟩
  · exact .inr ⟨_, hv, a, rfl, ⟨xs, .of h⟩, q _ (.inr ⟨rfl, h⟩)⟩
theorem for_seq {J : It} {g : TG} (hJ : ItX K H a xs J) (Pv : Nat → L2.St → Hp → Prop) (h0 : Pv 0 σ H) (hk : ∀ i σ H', Pv i σ H' → Kp H H')
    (hs : ∀ i x σ H, xs[i]? = some x → Pv i σ H → g x σ H fun σ2 H2 => ts ⟨Pv (i + 1), r, n, Pv (i + 1)⟩ σ2 H2) (hd : ∀ σ H, Pv xs.length σ H → n σ H) : ForK J g ts n r b c σ H := by
  rcases hJ with ⟨rfl, e⟩ | ⟨rfl, e⟩
  · exact for_list (D := ⟨n, r, b, c⟩) Pv h0 (fun i σ H' _ h => .of (hk i σ H' h _ _ e)) hs hd
  · exact for_tup (D := ⟨n, r, b, c⟩) Pv h0 (fun i σ H' _ h => .of (hk i σ H' h _ _ e)) hs hd
theorem lc_seqG {J : It} {g : TG} (hJ : ItX K H1 a xs J) (Pv : Addr → Nat → Hp → Prop) (e : wipe σ vs = σ0) (h0 : ∀ D H2, H1 D = none → Kp H1 H2 → H2 D = some (.lst []) → Pv D 0 H2) (hk : ∀ D i H', Pv D i H' → Kp H1 H')
    (hs : ∀ D i x H, xs[i]? = some x → Pv D i H → g x σ0 H fun σ2 H2 => WipK vs σ2 σ0 (tt σ2 H2 fun b H3 => LcB b te D σ2 H3 (Pv D (i + 1)))) (hd : ∀ D H, Pv D xs.length H → Q (.ref D) H) : LcK J g tt te vs σ H1 Q := fun D hD => by
  subst e
  rcases hJ with ⟨rfl, e⟩ | ⟨rfl, e⟩
  · exact lc_list (Pv D) (h0 D _ hD (Kp.new hD) upd_same) (fun i H' _ h => .of (hk D i H' h _ _ e)) (hs D) (hd D)
  · exact lc_tup (Pv D) (h0 D _ hD (Kp.new hD) upd_same) (fun i H' _ h => .of (hk D i H' h _ _ e)) (hs D) (hd D)
/-! ### all, [::-1], tuple(l), isinstance(x, (C, D)) -/
theorem allX_l {bs : List Bool} {b : Bool} (h : SqL K H a (bs.map V.bl)) (e : bs.all id = b) (q : Q (.bl b) H) : rAll K [.ref a] H Q := ⟨a, bs, rfl, h, by rw [e]; exact q⟩
def RevK (K : PySem.W.Frag) (x : V) (H : Hp) (Q : VK) : Prop := ∃ a xs, x = .ref a ∧ SqL K H a xs ∧ ∀ p, H p = none → Q (.ref p) (upd H p (.lst xs.reverse))
theorem st_rev (q : te σ H fun x H1 => RevK K x H1 Q) : tRevL K te σ H Q := q
theorem revK (h : SqL K H a xs) (e : xs.reverse = zs) (q : ∀ p H', H p = none → Kp H H' → H' p = some (.lst zs) → Q (.ref p) H') : RevK K (.ref a) H Q := ⟨a, xs, rfl, h, fun p hp => q p _ hp (Kp.new hp) (by rw [e]; exact upd_same)⟩
def rTupG (K : PySem.W.Frag) : List V → Hp → VK → Prop := fun xs H Q => ∃ p ys, xs = [.ref p] ∧ ((SqL K H p ys ∧ ∀ l, H l = none → Q (.ref l) (upd H l (.tup ys))) ∨ (SqT K H p ys ∧ Q (.ref p) H))
theorem call_tupG {X : Cx} : CallR X (.type "tuple") (rTupG X.K) := call_tuple_of
theorem tup_l (h : SqL K H a xs) (q : ∀ p H', H p = none → Kp H H' → H' p = some (.tup xs) → Q (.ref p) H') : rTupG K [.ref a] H Q := ⟨a, xs, rfl, .inl ⟨h, fun p hp => q p _ hp (Kp.new hp) upd_same⟩⟩
def rIsi2 (K : PySem.W.Frag) : List V → Hp → VK → Prop := rIsiT K
theorem call_isi2 {X : Cx} : CallR X (.builtin "isinstance") (rIsi2 X.K) := call_isiT
theorem isi_2 {x : V} {t u v : Value} {c d : V} {b : Bool} (h : H p = some (.tup [c, d])) (hc : ClsV c u) (hd : ClsV d v) (ty : TyX K H x t) (e : PySem.W.kitAny K t [u, v] = some b) (q : Q (.bl b) H) : rIsi2 K [x, .ref p] H Q := ⟨x, p, [c, d], t, [u, v], b, rfl, h, .cons hc (.cons hd .nil), ty, e, q⟩
end
/-! ### x op= e in the body of a try: what it raises is told with the names' values of then -/
def tAugW (i : Nat) (te : TE) (t : XK → R2) (W : WX) : TS := fun D σ H => ∃ x, σ[i]? = some (some x) ∧ te σ H fun y H1 => t (fun cls d H' => W cls d σ H') x y H1 fun z H2 => D.nx (σ.set i (some z)) H2
section
variable {X : Cx} {W : WX}
def PIpW (X : Cx) (op : Operator) (W : WX) (t : XK → R2) : Prop := ∀ (pins : List (Addr × Obj)) (s : Shared) (σ : L2.St) (H : Hp) (x y : V) (v u : Value) (Q : VK), Inv X pins σ H s → RelV x v → RelV y u → t (fun cls d H' => W cls d σ H') x y H Q →
    wpAny (model X.prog X.w) X.A (inplaceOp op v u) (EP X pins σ Q) X.xe s
theorem ps_augW {i : Nat} {x : Str} {e : Expr} {te : TE} {op : Operator} {t : XK → R2} {pos pos' : Pos} (nd : X.N.Nodup) (hi : X.N[i]? = some x) (lo : Loc X.env.scope x) (he : PE X e te) (ho : PIpW X op W t)
    (hf : X.fn x = true ∨ X.env.scope.names.lookup x = some .local := by first | exact .inl rfl | exact .inr rfl | assumption) : PS X (.AugAssign (.Name x pos') op e pos) (tAugW i te t W) := ⟨fun pins s σ H D I ⟨y0, e0, rest⟩ => by
  have after : ∀ u0, RelV y0 u0 → wpAny (model X.prog X.w) X.A (eval e X.env) (fun w0 sa => wpAny (model X.prog X.w) X.A (inplaceOp op u0 w0) (fun z0 sb => wpAny (model X.prog X.w) X.A (storeName X.env x z0) (fun _ => SP X pins D .next) X.xe sb) X.xe sa) X.xe s := fun u0 r0 =>
    thn (he.run pins s σ H _ I rest) fun w0 sa ⟨yy, Ha, Ia, ra, qa⟩ => thn (ho pins sa σ Ha y0 yy u0 w0 _ Ia r0 ra qa) fun z0 sb ⟨zz, Hb, Ib, rb, qb⟩ => store_ok Ib nd hi lo rb (fun sc Ic => ⟨_, Hb, Ic, qb⟩) hf
  obtain ⟨mm, ns, tell⟩ := I.loc
  obtain ⟨u0, r0, look⟩ := tell i x y0 hi e0 (lo.elim .inl fun z => .inr (.inl z))
  refine wpAny_AugAssign_Name ?_
  rcases look with ⟨kd, hm⟩ | ⟨kd, cc, ec, ic⟩
  · exact wpAny_loadName_local I.ok.kind kd ns hm (after u0 r0)
  · have kc : X.env.kindOf x = some .cell := kd.resolve_right fun z => by
      have z' : X.env.scope.names.lookup x = some .free := z
      rcases lo with y | y <;> (rw [y] at z'; cases z')
    exact wpAny_loadName_cell I.ok.kind kc ec ic (after u0 r0)⟩
/-- what the run of a def raises, with the names' values of then -/
theorem passS {σ : L2.St} (tk : Takes X W) : ∀ (pins : List (Addr × Obj)) (H : Hp) (s : Shared) (e : Value) (s' : Shared), Inv X pins σ H s → L2.CX X.prog X.w X.stack H s (fun cls d H' => W cls d σ H') e s' → X.xe e s' :=
  fun _ _ _ e s' I c => tk e s' (XE.of_call I (fun _ _ _ h => h) c)
theorem run_fnW {pins : List (Addr × Obj)} {σ : L2.St} {H : Hp} {s : Shared} {Q : VK} {us : List Value} {vs : List V} {k : Nat} {f : Addr} {fd : FuncData} {ps : List Str} {sp : Sp} {dvs : List V} {ds : List Value} (F : FnG X.prog X.w X.K X.mg X.base (L2.CX X.prog X.w) k f fd ps sp) (hr : RoomG k X.A) (hb : Binds X.K fd ps ds) (hd : Vals dvs ds) (tk : Takes X W) (I : Inv X pins σ H s) (r : Vals vs us) (h : sp (vs ++ dvs) H Q (fun cls d H' => W cls d σ H')) :
    wpAny (model X.prog X.w) X.A (call (.ref f) us) (EP X pins σ Q) X.xe s :=
  wp_er (codeAny_mono (F.run hr I.env0 (hb s us I.kIn (len_of F hd r h)) (r.append hd) h) fun z s' hq => by
    match z, hq with
    | .error e, hq => exact passS tk pins H s e s' I hq
    | .ok (.ret u), hq => exact I.after hq
    | .ok .next, hq => exact hq
    | .ok .brk, hq => exact hq
    | .ok .cont, hq => exact hq)
theorem inp_IW {op : Operator} {C g : Addr} {k : Nat} {fd : FuncData} {ps : List Str} {sp : Sp} (B : OpB X.K C op.info.2 g) (J : IntB X.K C op.info.2) (n : NoI X.K C op.info.2) (F : FnG X.prog X.w X.K X.mg X.base (L2.CX X.prog X.w) k g fd ps sp) (hr : RoomG k X.A) (hb : Binds X.K fd ps []) (tk : Takes X W) : PIpW X op W (fun E => rBinI C sp E) := by
  intro pins s σ H x y v u Q I rx ry h
  obtain ⟨a, dx, fs, j, rfl, rfl, ha, q⟩ := h
  cases (show v = Value.ref a from rx)
  obtain ⟨t, rfl⟩ := (show ∃ t, u = Value.int j t from ry)
  obtain ⟨ox, od, _, J1⟩ := inst_of I ha
  obtain ⟨_, h1⟩ := J.fo
  obtain ⟨_, h2⟩ := J.ro
  exact inp_of I.kIn J1 n (bin1_type I.kIn J1 B rfl h1 h2 J.sub (thn (run_fnW (us := [.ref a, .int j t]) (vs := [.ref a, .int j]) F hr hb .nil tk I (.cons rfl (.cons ⟨t, rfl⟩ .nil)) q) fun w s' z => cmp_end (P := fun _ _ => True) z))
end
section
variable {σ : L2.St} {H : Hp} {i : Nat} {te : TE} {t : XK → R2} {W : WX} {x : V} {D : Ends}
theorem st_augW (h : σ[i]? = some (some x)) (q : te σ H fun y H1 => t (fun cls d H' => W cls d σ H') x y H1 fun z H2 => gName i z σ H2 D.nx) : tAugW i te t W D σ H := ⟨x, h, q⟩
end
end G
namespace G
open PySem PySem.Spec PyProof.Rows L2
section
variable {K : PySem.W.Frag} {H H' H1 : Hp}
mutual
theorem dp_kp (k : Kp H H') : ∀ {v : V} {d : PyData}, Dp K H v d → Dp K H' v d
  | _, _, .non => .non
  | _, _, .bl b => .bl b
  | _, _, .int i => .int i
  | _, _, .str x => .str x
  | _, _, .lst h t => .lst (SqL.kp k h) (dpAll_kp k t)
  | _, _, .tup h t => .tup (SqT.kp k h) (dpAll_kp k t)
theorem dpAll_kp (k : Kp H H') : ∀ {vs : List V} {ds : List PyData}, DpAll K H vs ds → DpAll K H' vs ds
  | _, _, .nil => .nil
  | _, _, .cons h t => .cons (dp_kp k h) (dpAll_kp k t)
end
/-- [f(x) for x in xs]: what each element gives is known -/
theorem lc_map1 {a : Addr} {xs ys : List V} {J : It} {j : Nat} {te : TE} {vs : List Nat} {σ σ0 : L2.St} {Q : VK} (hJ : ItX K H1 a xs J) (e : wipe σ vs = σ0) (e2 : ∀ x, wipe (σ0.set j (some x)) vs = σ0) (len : xs.length = ys.length) (lz : xs.length ≤ 900)
    (hs : ∀ (i : Nat) (x y : V) (H' : Hp) (R : VK), xs[i]? = some x → ys[i]? = some y → Kp H1 H' → (∀ H4, Kp H' H4 → R y H4) → te (σ0.set j (some x)) H' R)
    (hd : ∀ D H', H1 D = none → H' D = some (.lst ys) → Kp H1 H' → Q (.ref D) H') : LcK J (gName j) tYes te vs σ H1 Q := by
  refine lc_seqG hJ (fun D i H' => H1 D = none ∧ i ≤ ys.length ∧ H' D = some (.lst (ys.take i)) ∧ Kp H1 H') e (fun D H2 hn k eD => ⟨hn, Nat.zero_le _, by simpa using eD, k⟩) (fun D i H' ⟨_, _, _, k⟩ => k) ?_ ?_
  · rintro D i x H' hx ⟨hn, hi, eD, k⟩
    have hi2 : i < ys.length := by
      have := (List.getElem?_eq_some_iff.mp hx).1
      omega
    obtain ⟨y, hy⟩ : ∃ y, ys[i]? = some y := ⟨_, List.getElem?_eq_getElem hi2⟩
    refine ⟨e2 x, ?_⟩
    show LcB true te D _ H' _
    refine st_lcT ?_
    have tk : ys.take i ++ [y] = ys.take (i + 1) := by
      rw [List.take_add_one, hy]
      rfl
    refine hs i x y H' _ hx hy k fun H4 k4 => ?_
    refine st_app (k4 _ _ eD) (by rw [sizeLine_eq, List.length_take]; omega) fun H5 m e5 => ⟨hn, hi2, by rw [← tk]; exact e5, (k.trans k4).md_new m hn⟩
  · rintro D H' ⟨hn, _, eD, k⟩
    exact hd D H' hn (by rw [eD, len, List.take_length]) k
end
end G
namespace G
open PySem PySem.Spec PySem.Calls PyProof.Rows L2
section
variable {prog : Program} {w : World}
theorem declines_mod : Declines prog w "mod" := fun {A E s Q n t x ox} hx hd q => by
  unfold tryMethod
  refine wpAny_bind ?_
  generalize hz : PySem.dunder "mod" = z
  refine wpAny_callSpecial?_slot (id := "int.__mod__") (T := "int") (typeIs_int s n t) (by rw [← hz]; exact F.slot_int_mod) ?_
  exact wpAny_call_entry F.slot_int_mod (typeIs_int s n t) F.entry_int_mod (intB_declines hx hd ⟨_, rfl, wpAny_pure q⟩) (F.args_int_mod_2 _ _)
theorem fd_declines {M : Model} {A : Around} {E : Value → Shared → Prop} {s : Shared} {a : Int} {t : Tok} {x : Addr} {ox : Obj} {Q : PySem.Fin → Shared → Prop} (hx : s.heap.get? x = some ox) (hd : ox.data = .plain) (h : Q (.done (.ret .notImplemented)) s) :
    wpAny M A (PySem.Builtin.«int.__floordiv__» ⟨[.int a t, .ref x], []⟩) Q E s := by
  unfold PySem.Builtin.«int.__floordiv__»
  refine wpAny_bind ?_
  obtain ⟨hp, g2, d, tk, os⟩ := s
  unfold PySem.Builtin.exactOperandsForPylong
  wp_walk
  rw [hd]
  wp_walk
  rw [hd]
  wp_walk
  exact h
theorem declines_floordiv : Declines prog w "floordiv" := fun {A E s Q n t x ox} hx hd q => by
  unfold tryMethod
  refine wpAny_bind ?_
  generalize hz : PySem.dunder "floordiv" = z
  refine wpAny_callSpecial?_slot (id := "int.__floordiv__") (T := "int") (typeIs_int s n t) (by rw [← hz]; exact F.slot_int_floordiv) ?_
  exact wpAny_call_entry F.slot_int_floordiv (typeIs_int s n t) F.entry_int_floordiv (fd_declines hx hd ⟨_, rfl, wpAny_pure q⟩) (F.args_int_floordiv_2 _ _)
end
section
variable {P : Program} {w : World} {K : PySem.W.Frag} {mg : Str → Option Value} {base : Heap} {CX : CXT} {k : Nat} {f : Addr} {fd : FuncData} {ps : List Str} {sp sp' : Sp}
/-- a promise that lets no exception out, and one that does -/
theorem FnG.or (F : FnG P w K mg base CX0 k f fd ps sp) (G' : FnG P w K mg base CX k f fd ps sp') : FnG P w K mg base CX k f fd ps (fun vs H Q E => sp vs H Q E ∨ sp' vs H Q E) := ⟨fun h => h.elim F.len G'.len, fun r e0 hb rv h => h.elim (fun h => codeAny_mono (F.run r e0 hb rv h) fun r s' hq => by
    match r, hq with
    | .error _, hq => exact (show False from hq).elim
    | .ok (.ret _), hq => exact hq
    | .ok .next, hq => exact hq
    | .ok .brk, hq => exact hq
    | .ok .cont, hq => exact hq) (G'.run r e0 hb rv)⟩
end
end G
namespace G
open PySem PySem.Spec PyProof.Rows L2
/-! ### the same rules in a block or lambda: K is told -/
section
variable {X : Cx} {K : PySem.W.Frag} {k : Nat}
theorem call_reprK (e : X.K = K) (hr : RoomG k X.A) : CallR X (.builtin "repr") (rReprG K) := by subst e; exact call_reprG hr
theorem call_isiK (e : X.K = K) : CallR X (.builtin "isinstance") (rIsiG K) := by subst e; exact call_isiG
theorem call_lenK (e : X.K = K) : CallR X (.builtin "len") (rLenG K) := by subst e; exact call_lenG
theorem ix_seqK (e : X.K = K) : IxR X (rIx K) := by subst e; exact ix_seq
theorem op_eqK (e : X.K = K) (hu : X.A.units + 64 < cLine) : OpR X (compareOp .Eq) (rEqG K) := by subst e; exact op_eqG hu
theorem op_neK (e : X.K = K) (hu : X.A.units + 64 < cLine) : OpR X (compareOp .NotEq) (rNeG K) := by subst e; exact op_neG hu
theorem op_addK (e : X.K = K) : OpR X (binaryOp .Add) (rAddG K) := by subst e; exact op_addG
theorem sl_K (e : X.K = K) : SlR X (rSlG K) := by subst e; exact sl_G
end
end G
namespace G
open PySem PySem.Spec PySem.Calls PyProof.Rows PySem.W
section
variable {prog : Program} {w : World} {A : Around} {E : Value → Shared → Prop} {s : Shared} {K : Frag} {x C f : Addr} {ox : Obj} {od : Option Obj}
theorem pyStr_own {Q : Value → Shared → Prop} (hu : A.units < cLine) (X : K.In s.heap) (I : InstAt s.heap x ox C od) (hs : findIn K (.ref C) "__str__" = some (some (.ref f))) (hf : isFn K (.ref f) = true)
    (h : wpAny (model prog w) A (call (.ref f) [.ref x]) (fun r s₁ => ∃ y u, r = .str y u ∧ Q r s₁) E s) : wpAny (model prog w) A (pyStrObj (.ref x)) Q E s := by
  unfold pyStrObj
  refine wpAny_bind (m := cRoomFor _ _) (wpAny_cRoomFor hu ?_)
  refine wpAny_bind (m := callSpecial? (.ref x) (Str.ofString "__str__")) (special_fn X I hs (beq_iff_eq.mp hf) (wpAny_mono h (fun r s' hr => ?_) fun _ _ y => y))
  obtain ⟨y, u, rfl, q⟩ := hr
  exact wpAny_bind (wpAny_isInstance (T := "str") (b := true) rfl isSubtype_str_str (wpAny_pure q))
end
end G
namespace G
open PySem PySem.Spec PySem.Calls PyProof.Rows L2
section
variable {X : Cx} {CX : CXT} {k : Nat} {C g : Addr} {sp : Sp} {E : XK} {fd : FuncData} {ps : List Str} {e : Expr} {te : TE} {pos : Pos} {σ : L2.St} {H : Hp} {Q : VK} {a : Addr}
/-- {x!s}, x of an own class with an own __str__ -/
def tFmtS (C : Addr) (sp : Sp) (E : XK) (te : TE) : TE := fun σ H Q => te σ H fun x H1 => ∃ a dx fs, x = .ref a ∧ H1 a = some (.ins C dx fs) ∧ sp [.ref a] H1 (fun v H' => ∃ z : Str, v = .str z ∧ z.length ≤ sizeLine ∧ Q v H') E
theorem pe_fmtS (m : OwnM X.K C "__str__" g) (F : FnG X.prog X.w X.K X.mg X.base CX k g fd ps sp) (hr : RoomG k X.A) (hb : Binds X.K fd ps []) (hx : Passes CX X E) (he : PE X e te) : PE X (.FormattedValue e 115 none pos) (tFmtS C sp E te) := by
  refine ⟨fun pins s σ H Q I h => ?_⟩
  refine wpAny_FormattedValue_s (thn (he.run pins s σ H _ I h) fun v s1 hv => ?_)
  obtain ⟨x, H1, I1, r1, a, dx, fs, rfl, ha, q⟩ := hv
  cases (show v = Value.ref a from r1)
  obtain ⟨ox, od, _, J⟩ := inst_of I1 ha
  have run := run_at (args := ⟨[.ref a], []⟩) (ws := [.ref a]) (vs := [.ref a]) F hr I1.env0 hx I1 (hb s1 [.ref a] I1.kIn (by have l := F.len q; exact l)) (.cons rfl .nil) q
  show wpAny (model X.prog X.w) X.A (pyStrObj (.ref a)) _ _ _
  refine pyStr_own (by have := hr.units; omega) I1.kIn J m.at_ m.fn (wpAny_mono (wp_er run) (fun v s' z => ?_) fun _ _ e => e)
  obtain ⟨w, H', I', rw', z, ez, hz, qz⟩ := z
  subst ez
  obtain ⟨t, e⟩ := (show ∃ t, v = Value.str z t from rw')
  subst e
  exact ⟨z, t, rfl, wpAny_formatField_str ⟨.str z, H', I', ⟨t, rfl⟩, qz⟩ ⟨.str z, H', I'.tok _, ⟨_, rfl⟩, qz⟩ hz⟩
theorem st_fmtS (q : te σ H fun x H1 => ∃ a dx fs, x = .ref a ∧ H1 a = some (.ins C dx fs) ∧ sp [.ref a] H1 (fun v H' => ∃ z : Str, v = .str z ∧ z.length ≤ sizeLine ∧ Q v H') E) : tFmtS C sp E te σ H Q := q
/-- repr of an empty dict -/
def rReprD0 : List V → Hp → VK → Prop := fun xs H Q => ∃ a, xs = [.ref a] ∧ H a = some (.dK []) ∧ Q (.str "{}") H
theorem call_reprD0 (hr : RoomG k X.A) : CallR X (.builtin "repr") rReprD0 := by
  intro pins s σ H xs us Q I r h
  obtain ⟨a, rfl, ha, q⟩ := h
  obtain ⟨u, rfl, ru⟩ := vals1 r
  cases (show u = Value.ref a from ru)
  obtain ⟨_, hs, vs, kv, o, es, ep, ho, hx, hd, _, hp, _⟩ := dk_of I.hok ha
  have hv : vs = [] := by cases kv; rfl
  subst hv
  have hes : es.toList = [] := by
    have := hp.length
    simpa using this
  have rd : Reads s.heap (.ref a) (.dict []) (a :: [] ++ []) := .dict ho hx.1 hd (by rw [hes]; exact .nil) (by rw [hes]; exact .nil)
  have e0 : (PyData.dict []).shown = "{}" := by decide +kernel
  refine repr_of_reads' rd (by decide +kernel) (fun _ hm => ?_) hr.gs (by have := hr.units; have : (PyData.dict []).depth ≤ 2 := (by decide +kernel); omega) (fun _ _ e => e) (fun h' t tk k => ⟨.str _, H, I.kept k, ⟨t, rfl⟩, by rw [e0]; exact q⟩) (by rw [e0]; decide +kernel)
  simp only [List.append_nil, List.mem_singleton] at hm
  subst hm
  simp at hs
def rReprGD (K : PySem.W.Frag) : List V → Hp → VK → Prop := fun xs H Q => rReprG K xs H Q ∨ rReprD0 xs H Q
theorem call_reprGD (hr : RoomG k X.A) : CallR X (.builtin "repr") (rReprGD X.K) := (call_reprG hr).or (call_reprD0 hr)
end
end G
namespace G
open PySem PySem.Spec PySem.Calls PyProof.Rows L2
/-! ### defs that may be called while an exception is handled (they raise nothing and walk through nothing) -/
section
variable {P : Program} {w : World} {K : PySem.W.Frag} {mg : Str → Option Value} {base : Heap}
/-- room, whatever is handled -/
structure RoomW (k : Nat) (A : Around) : Prop where
  dp : A.depth + 3 * k + 5 < recursionLimit
  un : A.units + 16 * k + 200 < cLine
  gs : A.guards = some []
theorem RoomW.mono {j k : Nat} {A : Around} (r : RoomW k A) (h : j ≤ k) : RoomW j A := ⟨Nat.lt_of_le_of_lt (by omega) r.dp, Nat.lt_of_le_of_lt (by omega) r.un, r.gs⟩
theorem RoomW.deeper {k : Nat} {A : Around} (r : RoomW (k + 1) A) (env : Env) : RoomW k (A.deeper env) :=
  ⟨by have z := r.dp; show (A.depth + 1) + 3 * k + 5 < recursionLimit; omega, by have z := r.un; show (A.units + 3) + 16 * k + 200 < cLine; omega, r.gs⟩
theorem RoomW.in1 {k : Nat} {A : Around} (r : RoomW (k + 1) A) : RoomW k A.in1 :=
  ⟨by have z := r.dp; show A.depth + 3 * k + 5 < recursionLimit; omega, by have z := r.un; show (A.units + 1) + 16 * k + 200 < cLine; omega, r.gs⟩
theorem RoomW.units {k : Nat} {A : Around} (r : RoomW k A) : A.units + 64 < cLine := by have z := r.un; omega
theorem RoomG.warm {k : Nat} {A : Around} (r : RoomG k A) : RoomW k A := ⟨r.rm.dp, r.rm.un, r.gs⟩
theorem RoomG.hot {k : Nat} {A : Around} {h : Option Value} (r : RoomG k A) : RoomW k (A.mark h) := ⟨r.rm.dp, r.rm.un, r.gs⟩
structure FnW (P : Program) (w : World) (K : PySem.W.Frag) (mg : Str → Option Value) (base : Heap) (CX : CXT) (k : Nat) (f : Addr) (fd : FuncData) (ps : List Str) (sp : Sp) : Prop where
  len : ∀ {vs : List V} {H : Hp} {Q : VK} {E : XK}, sp vs H Q E → vs.length = ps.length
  run : ∀ {A : Around} {outer : List Env} {s : Shared} {H : Hp} {args : Args} {us : List Value} {vs : List V} {Q : VK} {E : XK},
    RoomW k A → Env0 P w K mg base A outer s H → BindsTo s fd args (ps.zip us) → Vals vs us → sp vs H Q E → codeAny (model P w) A (.call (.ref f) args) (CR CX outer P w H s Q E) s
theorem FnW.fn {CX : CXT} {k : Nat} {f : Addr} {fd : FuncData} {ps : List Str} {sp : Sp} (F : FnW P w K mg base CX k f fd ps sp) : FnG P w K mg base CX k f fd ps sp := ⟨F.len, fun r => F.run r.warm⟩
/-- the surroundings with nothing handled -/
abbrev cool (A : Around) : Around := { A with handled := none }
abbrev cxW (CX : CXT) (P : Program) (w : World) (K : PySem.W.Frag) (mg : Str → Option Value) (base : Heap) (N : List Str) (q : Str) (sc : Scope) (f : Addr) (cd : Value) (A : Around) (outer : List Env) (s : Shared) (H : Hp) (E : XK) : Cx :=
  { cxOf CX P w K mg base N q sc f cd A outer s H E with calm := false }
theorem inv_warm {CX : CXT} {N : List Str} {q : Str} {sc : Scope} {f : Addr} {cd : Value} {A : Around} {outer : List Env} {s s1 : Shared} {H H1 : Hp} {E : XK} {σ : L2.St} (I : Inv (cxOf CX P w K mg base N q sc f cd (cool A) outer s H E) [] σ H1 s1) :
    Inv (cxW CX P w K mg base N q sc f cd A outer s H E) [] σ H1 s1 :=
  ⟨⟨I.ok.mod, I.ok.kind, I.ok.glob, I.ok.blt, I.ok.above, I.ok.inj, I.ok.has, I.ok.cab, fun z => Bool.noConfusion (show false = true from z), I.ok.frames, I.ok.stk, I.ok.exf, I.ok.bs, I.ok.bsz, I.ok.noex, I.ok.exfs, I.ok.funs, I.ok.frf⟩,
    I.os, I.bare, I.base, I.loc, I.cell, I.free, I.freeC, I.pin, I.hok, I.len⟩
theorem run_ofW {CX : CXT} {k : Nat} {f : Addr} {nm q : Str} {params : Arguments} {body : List Stmt} {sc : Scope} {dV kV doc pm cd ct oc : Value} {an od : Option Addr} {osl : Array (Option Value)} {N ps : List Str}
    (lk : K.lookup f = some ⟨oc, od, .func (PySem.W.fnOf nm q params body sc dV kV doc pm an cd ct), osl⟩) (hc : PySem.W.codeIn K cd q = true) (S : FnScope N ps sc) {A : Around} {outer : List Env} {s : Shared} {H : Hp} {args : Args} {us : List Value} {vs : List V} {Q : VK} {E : XK}
    (hr : RoomW (k + 1) A) (e : Env0 P w K mg base A outer s H) (hb : BindsTo s (PySem.W.fnOf nm q params body sc dV kV doc pm an cd ct) args (ps.zip us)) (rv : Vals vs us) (hl : vs.length = ps.length)
    (hbody : ∃ t, PSs (cxW CX P w K mg base N q sc f cd A outer s H E) body t ∧ t { nx := fun _ H' => Q .non H', rt := Q } (L2.start N vs) H) : codeAny (model P w) A (.call (.ref f) args) (CR CX outer P w H s Q E) s := by
  have kin : K.In s.heap := e.mod.kin.keeps (fun a o z => (e.bs a o z).1)
  have kinds : ∀ y ∈ ps.zip us, sc.names.lookup y.1 = some .local ∨ (sc.names.lookup y.1 = some .cell ∧ ((cellsFrom (s.heap.objs.size + 1) sc.names []).lookup y.1).isSome = true) := by
    intro y hy
    rcases S.par y.1 (List.of_mem_zip (show (y.1, y.2) ∈ ps.zip us from hy)).1 with z | z
    · exact .inl z
    · exact .inr ⟨z, PySem.W.cellsFrom_some _ _ _ (.inl z)⟩
  have dp := hr.dp
  refine codeAny_call_function (by omega) (kin _ _ lk) rfl S.co S.gen rfl (PySem.W.codeRec_of kin hc) (hb _ _ _ _ (wpAny_newFunctionEnv_cells S.kind kinds fun env he s1 x => ?_))
  subst he
  obtain ⟨t, ht, hq⟩ := hbody
  have e' : Env0 P w K mg base (cool A) outer s H := ⟨e.frames, e.mod, e.bs, e.bsz, e.funs, e.frf, e.hok, e.bare⟩
  have I := inv_warm (inv_start (CX := CX) (E := E) (A := cool A) S rfl e' hl rv x)
  refine ⟨(e.mod.nolimit.keeps (fun a o z => (e.bs a o z).1)).keeps x.toInCall.keep, codeAny_func (wpAny_mono (ht.run [] s1 _ H _ I hq) (fun fl s' hs => ?_) fun _ _ z => z)⟩
  match fl, hs with
  | .ret u, ⟨v, _, H', J, r, z⟩ => exact ⟨v, H', J.os, J.bare, J.base, J.hok, r, z⟩
  | .next, ⟨_, H', J, z⟩ => exact ⟨.non, H', J.os, J.bare, J.base, J.hok, rfl, z⟩
  | .brk, ⟨_, _, _, z⟩ => exact z.elim
  | .cont, ⟨_, _, _, z⟩ => exact z.elim
theorem ok_ofW {x q : Str} {st : Stmt} {dvs : List V} {kws : List (Str × V)} {f : Addr} {fd : FuncData} {N ps : List Str} {k : Nat} {sp : Sp} (F : L2.FunD K x q (defArgs st) (defBody st) (defScope st) dvs kws f fd) (S : FnScope N ps (defScope st)) (len : ∀ vs H Q E, sp vs H Q E → vs.length = ps.length)
    (hbody : ∀ (cdv : Value) (A : Around) (outer : List Env) (s : Shared) (H : Hp) (vs : List V) (Q : VK) (E : XK), RoomW k (A.deeper (envOfC q (defScope st) s.heap.objs.size f cdv)) → sp vs H Q E →
      ∃ t, PSs (cxW CX0 P w K mg base N q (defScope st) f cdv A outer s H E).nox (defBody st) t ∧ t { nx := fun _ H' => Q .non H', rt := Q } (start N vs) H) : FnW P w K mg base CX0 (k + 1) f fd ps sp := by
  obtain ⟨oc, od, dV, kV, doc, pm, an, cdv, ct, osl, rfl, lk, hcd, _, _⟩ := F.ex
  exact ⟨fun h => len _ _ _ _ h, fun {A outer s H args us vs Q E} r e0 hb rv h => run_ofW lk hcd S r e0 hb rv (len _ _ _ _ h) (let ⟨t, ht, q⟩ := hbody cdv A outer s H vs Q E (r.deeper _) h; ⟨t, ht.nox, q⟩)⟩
end
section
variable {X : Cx} {CX : CXT} {k : Nat} {f C g : Addr} {fd : FuncData} {ps : List Str} {sp : Sp} {dvs : List V} {ds : List Value} {E : XK} {x : Str} {p pos : Pos} {e : Expr} {es : List Expr} {te : TE} {t : TA} {pins : List (Addr × Obj)} {σ : L2.St} {H : Hp} {s : Shared} {Q : VK} {us : List Value} {vs : List V}
theorem run_atW {A' : Around} {args : Args} {ws : List Value} (F : FnW X.prog X.w X.K X.mg X.base CX k f fd ps sp) (hr : RoomW k A') (e0 : Env0 X.prog X.w X.K X.mg X.base A' X.stack s H) (hx : Passes CX X E) (I : Inv X pins σ H s) (hb : BindsTo s fd args (ps.zip ws)) (r : Vals vs ws) (h : sp vs H Q E) :
    codeAny (model X.prog X.w) A' (.call (.ref f) args) (ER X pins σ Q) s := codeAny_mono (F.run hr e0 hb r h) fun _ _ hq => er_of hx I hq
theorem run_fnGW (F : FnW X.prog X.w X.K X.mg X.base CX k f fd ps sp) (hr : RoomW k X.A) (hb : Binds X.K fd ps ds) (hd : Vals dvs ds) (hx : Passes CX X E) (I : Inv X pins σ H s) (r : Vals vs us) (h : sp (vs ++ dvs) H Q E) :
    wpAny (model X.prog X.w) X.A (call (.ref f) us) (EP X pins σ Q) X.xe s := wp_er (run_atW F hr I.env0 hx I (hb s us I.kIn (by rw [← (r.append hd).length]; exact F.len h)) (r.append hd) h)
theorem pe_callW (F : FnW X.prog X.w X.K X.mg X.base CX k f fd ps sp) (hr : RoomW k X.A) (hg : Gl X x) (hm : X.mg x = some (.ref f)) (hk : PySem.W.keepIn X.K (.ref f) = true) (hb : Binds X.K fd ps ds) (hd : Vals dvs ds) (hx : Passes CX X E) (ha : PA X (e :: es) t)
    (hdb : (x == ("__debug__" : Str)) = false := by decide) (he : starEach (e :: es) X.env = (false, eval e X.env) :: starEach es X.env := by rfl) (hpl : (backTo pos (starEach es X.env)).any (·.1) = false := by rfl) : PE X (.Call (.Name x p) (e :: es) [] pos) (tCall sp dvs E t) :=
  ⟨fun pins s σ H _ I h => wpAny_Call_Name_kw (ld_glob I hg hm (PySem.W.callWith_K (h₀ := X.base) I.ok.mod.kin hk (thn (ha.run pos pins s σ H _ I h) fun _ _ ⟨_, _, J, r, q⟩ => ⟨J.kIn, run_fnGW F hr hb hd hx J r q⟩) he hpl) hdb)⟩
theorem call_strOW (m : OwnM X.K C "__str__" g) (F : FnW X.prog X.w X.K X.mg X.base CX k g fd ps sp) (hr : RoomW (k + 2) X.A) (hb : Binds X.K fd ps []) (hx : Passes CX X E) : CallR X (.type "str") (rStrO C sp E) := by
  intro pins s σ H xs us Q I r h
  obtain ⟨a, dx, fs, rfl, ha, q⟩ := h
  obtain ⟨u, rfl, ru⟩ := vals1 r
  cases (show u = Value.ref a from ru)
  obtain ⟨ox, od, _, J⟩ := inst_of I ha
  have run := run_atW (args := ⟨[.ref a], []⟩) (ws := [.ref a]) (vs := [.ref a]) F (hr.in1).in1 I.env0.in1.in1 hx I (hb s [.ref a] I.kIn (by have l := F.len q; exact l)) (.cons rfl .nil) q
  refine PySem.W.kso_call (by have := hr.units; show X.A.units + 1 + 1 < cLine; omega) I.kIn J m.at_ m.fn (wpAny_mono (wp_er run) (fun v s' z => ?_) fun _ _ e => e)
  obtain ⟨w, H', I', rw', z, ez, qz⟩ := z
  subst ez
  obtain ⟨t, e⟩ := (show ∃ t, v = Value.str z t from rw')
  subst e
  exact ⟨.str z, H', I', ⟨t, rfl⟩, qz⟩
theorem pe_fmtSW (m : OwnM X.K C "__str__" g) (F : FnW X.prog X.w X.K X.mg X.base CX k g fd ps sp) (hr : RoomW k X.A) (hb : Binds X.K fd ps []) (hx : Passes CX X E) (he : PE X e te) : PE X (.FormattedValue e 115 none pos) (tFmtS C sp E te) := by
  refine ⟨fun pins s σ H Q I h => ?_⟩
  refine wpAny_FormattedValue_s (thn (he.run pins s σ H _ I h) fun v s1 hv => ?_)
  obtain ⟨x, H1, I1, r1, a, dx, fs, rfl, ha, q⟩ := hv
  cases (show v = Value.ref a from r1)
  obtain ⟨ox, od, _, J⟩ := inst_of I1 ha
  have run := run_atW (args := ⟨[.ref a], []⟩) (ws := [.ref a]) (vs := [.ref a]) F hr I1.env0 hx I1 (hb s1 [.ref a] I1.kIn (by have l := F.len q; exact l)) (.cons rfl .nil) q
  show wpAny (model X.prog X.w) X.A (pyStrObj (.ref a)) _ _ _
  refine pyStr_own (by have := hr.units; omega) I1.kIn J m.at_ m.fn (wpAny_mono (wp_er run) (fun v s' z => ?_) fun _ _ e => e)
  obtain ⟨w, H', I', rw', z, ez, hz, qz⟩ := z
  subst ez
  obtain ⟨t, e⟩ := (show ∃ t, v = Value.str z t from rw')
  subst e
  exact ⟨z, t, rfl, wpAny_formatField_str ⟨.str z, H', I', ⟨t, rfl⟩, qz⟩ ⟨.str z, H', I'.tok _, ⟨_, rfl⟩, qz⟩ hz⟩
theorem call_reprGDW (hr : RoomW k X.A) : CallR X (.builtin "repr") (rReprGD X.K) := by
  intro pins s σ H xs us Q I r h
  rcases h with ⟨x, d, rfl, dp, hs, nd, hz, hd, q⟩ | ⟨a, rfl, ha, q⟩
  · obtain ⟨u, rfl, ru⟩ := vals1 r
    obtain ⟨as, rd⟩ := Dp.reads I d x u dp ru
    exact repr_reads rd hs nd hz hr.gs (by have := hr.units; omega) fun h' t tk k => ⟨.str _, H, I.kept k, ⟨t, rfl⟩, q⟩
  · obtain ⟨u, rfl, ru⟩ := vals1 r
    cases (show u = Value.ref a from ru)
    obtain ⟨_, hs, vs, kv, o, es, ep, ho, hx, hd, _, hp, _⟩ := dk_of I.hok ha
    have hv : vs = [] := by cases kv; rfl
    subst hv
    have hes : es.toList = [] := by
      have := hp.length
      simpa using this
    have rd : Reads s.heap (.ref a) (.dict []) (a :: [] ++ []) := .dict ho hx.1 hd (by rw [hes]; exact .nil) (by rw [hes]; exact .nil)
    have e0 : (PyData.dict []).shown = "{}" := by decide +kernel
    refine repr_of_reads' rd (by decide +kernel) (fun _ hm => ?_) hr.gs (by have := hr.units; have : (PyData.dict []).depth ≤ 2 := (by decide +kernel); omega) (fun _ _ e => e) (fun h' t tk k => ⟨.str _, H, I.kept k, ⟨t, rfl⟩, by rw [e0]; exact q⟩) (by rw [e0]; decide +kernel)
    simp only [List.append_nil, List.mem_singleton] at hm
    subst hm
    simp at hs
end
end G
namespace ZS
open PySem PySem.Spec PySem.Calls PyProof.Rows L2 RZ
/-! ### zip of two texts in ASCII -/
abbrev SI (h : Heap) (it : Addr) (x : Str) (t : Tok) (i : Nat) : Prop := h.IsStrIter it "str_ascii_iterator" x t i
section
variable {prog : Program} {w : World} {A : Around} {E : Value → Shared → Prop} {s : Shared}
theorem nextS_item {it : Addr} {x : Str} {t : Tok} {i c : Nat} {Q : Value → Shared → Prop} (hit : SI s.heap it x t i) (hx : x.cps[i]? = some c)
    (hQ : ∀ h', SI h' it x t (i + 1) → Heap.SameBut it s.heap h' → Q (.str ⟨#[c]⟩ s.toks) { s with heap := h', toks := s.toks + 1 }) :
    wpAny (model prog w) A (Builtin.SmallTypes.nextOf (.ref it)) Q E s := by
  obtain ⟨o, ho, hc, hd⟩ := id hit
  unfold Builtin.SmallTypes.nextOf
  refine wpAny_bind (wpAny_callSpecial?_slot (name := Str.ofString "__next__") hit.typeIs F.slot_str_ascii_iterator_next
    (wpAny_call_entry F.slot_str_ascii_iterator_next hit.typeIs F.entry_str_ascii_iterator_next ?_ (F.args_str_ascii_iterator_next_1 _)))
  show wpAny _ _ (field (.ref it) 0 >>= _) _ _ s
  refine wpAny_bind (wpAny_field ho hd (x := .str x t) rfl ?_)
  show wpAny _ _ (field (.ref it) 1 >>= _) _ _ s
  refine wpAny_bind (wpAny_field ho hd (x := .int i 0) rfl ?_)
  simp only [Int.toNat_natCast, hx]
  refine wpAny_bind (wpAny_setField ho hd (by simp) (wpAny_bind (wpAny_mkStr (wpAny_pure ⟨_, rfl, wpAny_pure (hQ _ ?_ (Heap.SameBut.update ..))⟩) (by show 1 ≤ sizeLine; decide))))
  exact ⟨_, Heap.get?_update_self _ ho (Obj.isFreed_of_fields (Obj.data_mapFields hd _)), (Obj.cls_mapFields ..).trans hc, by
    rw [Obj.data_mapFields hd]; simp [rawInt]⟩
theorem nextS_end {it : Addr} {x : Str} {t : Tok} {i : Nat} {Q : Value → Shared → Prop} (hh : A.handled = none) (hit : SI s.heap it x t i) (hx : x.cps[i]? = none)
    (hE : ∀ h' e, Heap.ExtBut it s.heap h' → (∃ o, h'.get? e = some o ∧ o.cls = .type "StopIteration") → E (.ref e) { s with heap := h' }) :
    wpAny (model prog w) A (Builtin.SmallTypes.nextOf (.ref it)) Q E s := by
  obtain ⟨o, ho, hc, hd⟩ := id hit
  unfold Builtin.SmallTypes.nextOf
  refine wpAny_bind (wpAny_callSpecial?_slot (name := Str.ofString "__next__") hit.typeIs F.slot_str_ascii_iterator_next
    (wpAny_call_entry F.slot_str_ascii_iterator_next hit.typeIs F.entry_str_ascii_iterator_next ?_ (F.args_str_ascii_iterator_next_1 _)))
  show wpAny _ _ (field (.ref it) 0 >>= _) _ _ s
  refine wpAny_bind (wpAny_field ho hd (x := .str x t) rfl ?_)
  show wpAny _ _ (field (.ref it) 1 >>= _) _ _ s
  refine wpAny_bind (wpAny_field ho hd (x := .int i 0) rfl ?_)
  simp only [Int.toNat_natCast, hx]
  refine wpAny_bind (wpAny_rule (wpAny_bind (wpAny_setField ho hd (by simp) (wpAny_bind (wpAny_letGo ?_)))))
  show wpAny _ _ (newExc (.type "StopIteration") [] >>= _) _ _ _
  refine wpAny_bind ?_
  simp only [newExc, newTuple]
  refine wpAny_bind (wpAny_newObj_type ?_ (by size_fits))
  refine wpAny_bind (m := firstArgMember _ _) (wpAny_of_eq (a := Value.none) (by first | rfl | (simp only [firstArgMember]; rfl)) ?_)
  refine wpAny_newObj_type ?_ (by size_fits)
  simp only [raiseNew]
  refine wpAny_bind (wpAny_handled ?_)
  first | rw [show A.in1.handled = none from hh] | rw [hh]
  refine wpAny_bind (wpAny_pure (wpAny_throw ?_))
  exact hE _ _ (((Heap.SameBut.update ..).extBut.push _).push _) ⟨_, Heap.get?_push_size _ rfl, rfl⟩
theorem SI.at {h h' : Heap} {it : Addr} {x : Str} {t : Tok} {i : Nat} (st : SI h it x t i) (k : ∀ o, h.get? it = some o → h'.get? it = some o) : SI h' it x t i := let ⟨o, ho, r⟩ := st; ⟨o, k o ho, r⟩
theorem SI.ext {h h' : Heap} {b it : Addr} {x : Str} {t : Tok} {i : Nat} (st : SI h it x t i) (k : Heap.ExtBut b h h') (n : it ≠ b) : SI h' it x t i := let ⟨o, ho, r⟩ := st; ⟨o, k it o n ho, r⟩
/-- who is apart from whom in such a zip -/
structure Ap (z TI TO i1 i2 : Addr) : Prop where
  TIz : TI ≠ z
  TOz : TO ≠ z
  i1z : i1 ≠ z
  i2z : i2 ≠ z
  TITO : TI ≠ TO
  TIi1 : TI ≠ i1
  TIi2 : TI ≠ i2
  TOi1 : TO ≠ i1
  TOi2 : TO ≠ i2
  i12 : i1 ≠ i2
theorem ap_new (I : Nat) : Ap (I + 4) (I + 2) (I + 3) I (I + 1) := by
  constructor <;> (refine PySem.W.neN ?_; omega)
theorem zipS_item {z TI TO i1 i2 : Addr} {k : Nat} {x y : Str} {t u : Tok} {c d : Nat} {a b : Value} {Q : Value → Shared → Prop} (D : Ap z TI TO i1 i2)
    (hz : IsZip s.heap z TI TO .none) (hTI : IsPair s.heap TI (.ref i1) (.ref i2)) (hTO : IsPair s.heap TO a b) (h1 : SI s.heap i1 x t k) (h2 : SI s.heap i2 y u k) (hx : x.cps[k]? = some c) (hy : y.cps[k]? = some d)
    (hQ : ∀ h' tk (v w : Value), (∃ t, v = .str ⟨#[c]⟩ t) → (∃ t, w = .str ⟨#[d]⟩ t) → IsZip h' z TI TO (rawInt s.heap.objs.size) → IsPair h' TO v w → SI h' i1 x t (k + 1) → SI h' i2 y u (k + 1) → IsPair h' s.heap.objs.size v w → h'.objs.size = s.heap.objs.size + 1 →
      (∀ c o, c ≠ z → c ≠ TO → c ≠ i1 → c ≠ i2 → s.heap.get? c = some o → h'.get? c = some o) → Q (.ref s.heap.objs.size) { s with heap := h', toks := tk }) :
    wpAny (model prog w) A (Builtin.«zip.__next__» ⟨[.ref z], []⟩) (fun fin s' => ∃ v, fin = .done (.ret v) ∧ Q v s') E s := by
  show wpAny _ _ (field (.ref z) 2 >>= _) _ _ _
  refine wpAny_bind (wpAny_field hz rfl (x := .bool false) rfl ?_)
  show wpAny _ _ (field (.ref z) 3 >>= _) _ _ _
  refine wpAny_bind (wpAny_field hz rfl (x := .ref TI) rfl ?_)
  refine wpAny_bind (wpAny_seqItems hTI rfl ?_)
  show wpAny _ _ (Builtin.SmallTypes.ownedTupleIsFree (.ref z) >>= _) _ _ _
  refine wpAny_bind ?_
  unfold Builtin.SmallTypes.ownedTupleIsFree
  refine wpAny_bind (wpAny_field hz rfl (x := .none) rfl (wpAny_pure ?_))
  simp only [if_true]
  refine wpAny_bind (wpAny_rule ?_)
  refine wpAny_bind (wpAny_field hz rfl (x := .ref TO) rfl ?_)
  refine wpAny_bind (wpAny_setField_rec hz (by simp) fun h₁ hz₁ hs₁ => ?_)
  replace hz₁ : IsZip h₁ z TI TO .ellipsis := hz₁
  refine wpAny_bind ?_
  simp only [List.zipIdx_cons, List.zipIdx_nil, List.forIn_cons, List.forIn_nil]
  refine wpAny_bind (wpAny_bind (wpAny_onRaise ?_))
  show wpAny _ _ (Builtin.SmallTypes.nextOf (.ref i1) >>= _) _ _ _
  refine wpAny_bind (nextS_item (h1.ext hs₁.extBut D.i1z) hx fun h₂ h1₂ hs₂ => wpAny_pure ?_)
  have hTO₂ : IsPair h₂ TO a b := hs₂.extBut _ _ D.TOi1 (hs₁.extBut _ _ D.TOz hTO)
  refine wpAny_bind (wpAny_seqItems hTO₂ rfl ?_)
  refine wpAny_bind (wpAny_updateSeq_pair hTO₂ fun h₃ hTO₃ hs₃ => ?_)
  replace hTO₃ := show IsPair h₃ TO _ b from hTO₃
  refine wpAny_bind (wpAny_letGo (wpAny_pure ?_))
  refine wpAny_bind (wpAny_bind (wpAny_onRaise ?_))
  show wpAny _ _ (Builtin.SmallTypes.nextOf (.ref i2) >>= _) _ _ _
  refine wpAny_bind (nextS_item (((h2.ext hs₁.extBut D.i2z).ext hs₂.extBut D.i12.symm).ext hs₃.extBut D.TOi2.symm) hy fun h₄ h2₄ hs₄ => wpAny_pure ?_)
  have hTO₄ := show IsPair h₄ TO _ b from hs₄.extBut _ _ D.TOi2 hTO₃
  refine wpAny_bind (wpAny_seqItems hTO₄ rfl ?_)
  refine wpAny_bind (wpAny_updateSeq_pair hTO₄ fun h₅ hTO₅ hs₅ => ?_)
  replace hTO₅ := show IsPair h₅ TO _ _ from hTO₅
  refine wpAny_bind (wpAny_letGo (wpAny_pure (wpAny_pure ?_)))
  refine wpAny_bind (wpAny_seqItems hTO₅ rfl ?_)
  refine wpAny_bind (wpAny_newTuple ?_)
  have hsz : h₅.objs.size = s.heap.objs.size := by rw [hs₅.1, hs₄.1, hs₃.1, hs₂.1, hs₁.1]
  have hz₅ : IsZip h₅ z TI TO .ellipsis := hs₅.extBut _ _ D.TOz.symm (hs₄.extBut _ _ D.i2z.symm (hs₃.extBut _ _ D.TOz.symm (hs₂.extBut _ _ D.i1z.symm hz₁)))
  have hk₅ : ∀ c o, c ≠ z → c ≠ TO → c ≠ i1 → c ≠ i2 → s.heap.get? c = some o → h₅.get? c = some o := fun c o c1 c2 c3 c4 e =>
    hs₅.extBut _ _ c2 (hs₄.extBut _ _ c4 (hs₃.extBut _ _ c2 (hs₂.extBut _ _ c3 (hs₁.extBut _ _ c1 e))))
  have h1₅ : SI h₅ i1 x t (k + 1) := ((h1₂.ext hs₃.extBut D.TOi1.symm).ext hs₄.extBut D.i12).ext hs₅.extBut D.TOi1.symm
  have h2₅ : SI h₅ i2 y u (k + 1) := h2₄.ext hs₅.extBut D.TOi2.symm
  have hzlt : z < h₅.objs.size := Heap.lt_size hz₅
  show wpAny _ _ (Builtin.SmallTypes.ownedTupleHandOut (.ref z) (.ref h₅.objs.size) >>= _) _ _ _
  refine wpAny_bind ?_
  unfold Builtin.SmallTypes.ownedTupleHandOut
  refine wpAny_bind (wpAny_setField_rec (show IsZip _ z TI TO .ellipsis from Heap.get?_push_of_some _ hz₅) (by simp) fun h₇ hz₇ hs₇ => ?_)
  replace hz₇ : IsZip h₇ z TI TO (rawInt h₅.objs.size) := hz₇
  refine wpAny_setField_rec hz₇ (by simp) fun h₈ hz₈ hs₈ => ?_
  replace hz₈ : IsZip h₈ z TI TO (rawInt h₅.objs.size) := hz₈
  have up : ∀ c o, c ≠ z → h₅.get? c = some o → h₈.get? c = some o := fun c o c1 e => hs₈.extBut _ _ c1 (hs₇.extBut _ _ c1 (Heap.get?_push_of_some _ e))
  have hT₈ := hs₈.extBut _ _ (Nat.ne_of_gt hzlt) (hs₇.extBut _ _ (Nat.ne_of_gt hzlt) (Heap.get?_push_size _ rfl))
  have hz8 : h₈.objs.size = h₅.objs.size + 1 := by rw [hs₈.1, hs₇.1, Heap.size_push]
  rw [hsz] at hz₈ hT₈ hz8
  refine wpAny_pure ⟨_, rfl, ?_⟩
  show Q (.ref h₅.objs.size) _
  rw [hsz]
  exact hQ h₈ _ _ _ ⟨_, rfl⟩ ⟨_, rfl⟩ hz₈ (up _ _ D.TOz hTO₅) (h1₅.at fun o e => up _ o D.i1z e) (h2₅.at fun o e => up _ o D.i2z e) hT₈ hz8 fun c o c1 c2 c3 c4 e => up c o c1 (hk₅ c o c1 c2 c3 c4 e)
theorem zipS_end {z TI TO i1 i2 : Addr} {k : Nat} {x y : Str} {t u : Tok} {a b : Value} {Q : Fin → Shared → Prop} (hh : A.handled = none) (D : Ap z TI TO i1 i2)
    (hz : IsZip s.heap z TI TO .none) (hTI : IsPair s.heap TI (.ref i1) (.ref i2)) (hTO : IsPair s.heap TO a b) (h1 : SI s.heap i1 x t k) (h2 : SI s.heap i2 y u k) (hend : x.cps[k]? = none ∨ y.cps[k]? = none)
    (hE : ∀ h' tk e, (∀ c o, c ≠ z → c ≠ TO → c ≠ i1 → c ≠ i2 → s.heap.get? c = some o → h'.get? c = some o) → (∃ o, h'.get? e = some o ∧ o.cls = .type "StopIteration") → E (.ref e) { s with heap := h', toks := tk }) :
    wpAny (model prog w) A (Builtin.«zip.__next__» ⟨[.ref z], []⟩) Q E s := by
  show wpAny _ _ (field (.ref z) 2 >>= _) _ _ _
  refine wpAny_bind (wpAny_field hz rfl (x := .bool false) rfl ?_)
  show wpAny _ _ (field (.ref z) 3 >>= _) _ _ _
  refine wpAny_bind (wpAny_field hz rfl (x := .ref TI) rfl ?_)
  refine wpAny_bind (wpAny_seqItems hTI rfl ?_)
  show wpAny _ _ (Builtin.SmallTypes.ownedTupleIsFree (.ref z) >>= _) _ _ _
  refine wpAny_bind ?_
  unfold Builtin.SmallTypes.ownedTupleIsFree
  refine wpAny_bind (wpAny_field hz rfl (x := .none) rfl (wpAny_pure ?_))
  simp only [if_true]
  refine wpAny_bind (wpAny_rule ?_)
  refine wpAny_bind (wpAny_field hz rfl (x := .ref TO) rfl ?_)
  refine wpAny_bind (wpAny_setField_rec hz (by simp) fun h₁ hz₁ hs₁ => ?_)
  replace hz₁ : IsZip h₁ z TI TO .ellipsis := hz₁
  refine wpAny_bind ?_
  simp only [List.zipIdx_cons, List.zipIdx_nil, List.forIn_cons, List.forIn_nil]
  refine wpAny_bind (wpAny_bind (wpAny_onRaise ?_))
  show wpAny _ _ (Builtin.SmallTypes.nextOf (.ref i1) >>= _) _ _ _
  cases hx : x.cps[k]? with
  | none =>
    refine wpAny_bind (nextS_end hh (h1.ext hs₁.extBut D.i1z) hx fun h₂ e hs₂ he => ?_)
    obtain ⟨oe, hoe, hce⟩ := he
    have hz₂ : IsZip h₂ z TI TO .ellipsis := hs₂ _ _ D.i1z.symm hz₁
    have hez : e ≠ z := fun x => by subst x; rw [hz₂] at hoe; cases hoe; simp at hce
    refine wpAny_setField_rec hz₂ (by simp) fun h₃ _ hs₃ => hE h₃ _ e (fun c o c1 _ c3 _ x => hs₃.extBut _ _ c1 (hs₂ _ _ c3 (hs₁.extBut _ _ c1 x))) ⟨oe, hs₃.extBut _ _ hez hoe, hce⟩
  | some c =>
    have hy : y.cps[k]? = none := by rcases hend with h | h; rw [hx] at h; cases h; exact h
    refine wpAny_bind (nextS_item (h1.ext hs₁.extBut D.i1z) hx fun h₂ h1₂ hs₂ => wpAny_pure ?_)
    have hTO₂ : IsPair h₂ TO a b := hs₂.extBut _ _ D.TOi1 (hs₁.extBut _ _ D.TOz hTO)
    refine wpAny_bind (wpAny_seqItems hTO₂ rfl ?_)
    refine wpAny_bind (wpAny_updateSeq_pair hTO₂ fun h₃ hTO₃ hs₃ => ?_)
    refine wpAny_bind (wpAny_letGo (wpAny_pure ?_))
    refine wpAny_bind (wpAny_bind (wpAny_onRaise ?_))
    show wpAny _ _ (Builtin.SmallTypes.nextOf (.ref i2) >>= _) _ _ _
    refine wpAny_bind (nextS_end hh (((h2.ext hs₁.extBut D.i2z).ext hs₂.extBut D.i12.symm).ext hs₃.extBut D.TOi2.symm) hy fun h₄ e hs₄ he => ?_)
    obtain ⟨oe, hoe, hce⟩ := he
    have hz₄ : IsZip h₄ z TI TO .ellipsis := hs₄ _ _ D.i2z.symm (hs₃.extBut _ _ D.TOz.symm (hs₂.extBut _ _ D.i1z.symm hz₁))
    have hez : e ≠ z := fun x => by subst x; rw [hz₄] at hoe; cases hoe; simp at hce
    refine wpAny_setField_rec hz₄ (by simp) fun h₅ _ hs₅ => hE h₅ _ e (fun c o c1 c2 c3 c4 x => hs₅.extBut _ _ c1 (hs₄ _ _ c4 (hs₃.extBut _ _ c2 (hs₂.extBut _ _ c3 (hs₁.extBut _ _ c1 x))))) ⟨oe, hs₅.extBut _ _ hez hoe, hce⟩
theorem next_item {z TI TO i1 i2 : Addr} {k : Nat} {x y : Str} {t u : Tok} {c d : Nat} {a b : Value} {Q : Option Value → Shared → Prop} (D : Ap z TI TO i1 i2)
    (hz : IsZip s.heap z TI TO .none) (hTI : IsPair s.heap TI (.ref i1) (.ref i2)) (hTO : IsPair s.heap TO a b) (h1 : SI s.heap i1 x t k) (h2 : SI s.heap i2 y u k) (hx : x.cps[k]? = some c) (hy : y.cps[k]? = some d)
    (hQ : ∀ h' tk (v w : Value), (∃ t, v = .str ⟨#[c]⟩ t) → (∃ t, w = .str ⟨#[d]⟩ t) → IsZip h' z TI TO (rawInt s.heap.objs.size) → IsPair h' TO v w → SI h' i1 x t (k + 1) → SI h' i2 y u (k + 1) → IsPair h' s.heap.objs.size v w → h'.objs.size = s.heap.objs.size + 1 →
      (∀ c o, c ≠ z → c ≠ TO → c ≠ i1 → c ≠ i2 → s.heap.get? c = some o → h'.get? c = some o) → Q (some (.ref s.heap.objs.size)) { s with heap := h', toks := tk }) :
    wpAny (model prog w) A (pyNext (.ref z)) Q E s := by
  have hT : s.TypeIs (.ref z) "zip" := ⟨_, hz, rfl⟩
  unfold pyNext
  exact wpAny_bind (wpAny_attempt (wpAny_callSpecial?_slot (name := Str.ofString "__next__") hT F.slot_zip_next
    (wpAny_call_entry F.slot_zip_next hT F.entry_zip_next
      (zipS_item D hz hTI hTO h1 h2 hx hy fun h' tk v w a1 a2 a3 a4 a5 a6 a7 a8 a9 => wpAny_pure (hQ h' tk v w a1 a2 a3 a4 a5 a6 a7 a8 a9)) (F.args_zip_next_1 _))))
theorem next_end {z TI TO i1 i2 : Addr} {k : Nat} {x y : Str} {t u : Tok} {a b : Value} {Q : Option Value → Shared → Prop} (hh : A.handled = none) (D : Ap z TI TO i1 i2)
    (hz : IsZip s.heap z TI TO .none) (hTI : IsPair s.heap TI (.ref i1) (.ref i2)) (hTO : IsPair s.heap TO a b) (h1 : SI s.heap i1 x t k) (h2 : SI s.heap i2 y u k) (hend : x.cps[k]? = none ∨ y.cps[k]? = none)
    (hQ : ∀ h' tk, (∀ c o, c ≠ z → c ≠ TO → c ≠ i1 → c ≠ i2 → s.heap.get? c = some o → h'.get? c = some o) → Q none { s with heap := h', toks := tk }) : wpAny (model prog w) A (pyNext (.ref z)) Q E s := by
  have hT : s.TypeIs (.ref z) "zip" := ⟨_, hz, rfl⟩
  unfold pyNext
  refine wpAny_bind (wpAny_attempt (wpAny_callSpecial?_slot (name := Str.ofString "__next__") hT F.slot_zip_next
    (wpAny_call_entry F.slot_zip_next hT F.entry_zip_next (zipS_end hh D hz hTI hTO h1 h2 hend fun h' tk e hk he => ?_) (F.args_zip_next_1 _))))
  obtain ⟨o, ho, hc⟩ := he
  refine wpAny_bind (wpAny_isInstance (T := "StopIteration") (b := true) ⟨o, ho, hc⟩ isSubtype_stop ?_)
  exact wpAny_pure (hQ _ _ hk)
end
abbrev H1 (h : Heap) (x : Str) (t : Tok) : Heap := h.push { cls := .type "str_ascii_iterator", data := .fields #[.str x t, .int 0 0] }
abbrev H2 (h : Heap) (x y : Str) (t u : Tok) : Heap := (H1 h x t).push { cls := .type "str_ascii_iterator", data := .fields #[.str y u, .int 0 0] }
abbrev H3 (h : Heap) (x y : Str) (t u : Tok) : Heap := (H2 h x y t u).push { cls := .type "tuple", data := .seq #[.ref h.objs.size, .ref (H1 h x t).objs.size] }
abbrev H4 (h : Heap) (x y : Str) (t u : Tok) : Heap := (H3 h x y t u).push { cls := .type "tuple", data := .seq #[.none, .none] }
abbrev H5 (h : Heap) (x y : Str) (t u : Tok) : Heap := (H4 h x y t u).push { cls := .type "zip", data := .fields #[.none, .bool false, .bool false, .ref (H2 h x y t u).objs.size, .ref (H3 h x y t u).objs.size] }
theorem meets_new (x y : Str) (t u : Tok) (hx : x.cps.all (· < 128) = true) (hy : y.cps.all (· < 128) = true) :
    Meets (Builtin.«zip.__new__» ⟨[.type "zip", .str x t, .str y u], []⟩) (fun _ R s => R (.ok (.ret (.ref (H4 s.heap x y t u).objs.size))) { s with heap := H5 s.heap x y t u }) :=
  .of_wp fun prog w A R s h => by
    obtain ⟨hp, g, d, tk, os⟩ := s
    have hsub := sub_zip
    wp_walk using wpAny_pyIter_ascii hx, wpAny_pyIter_ascii hy
    exact ⟨_, rfl, h⟩
section
variable {prog : Program} {w : World} {A : Around} {E : Value → Shared → Prop} {s : Shared}
theorem call_new {x y : Str} {t u : Tok} {Q : Value → Shared → Prop} (hx : x.cps.all (· < 128) = true) (hy : y.cps.all (· < 128) = true)
    (h : ∀ h', IsZip h' (s.heap.objs.size + 4) (s.heap.objs.size + 2) (s.heap.objs.size + 3) .none → IsPair h' (s.heap.objs.size + 2) (.ref s.heap.objs.size) (.ref (s.heap.objs.size + 1)) →
      IsPair h' (s.heap.objs.size + 3) .none .none → SI h' s.heap.objs.size x t 0 → SI h' (s.heap.objs.size + 1) y u 0 → h'.objs.size = s.heap.objs.size + 5 →
      (∀ c o, s.heap.get? c = some o → h'.get? c = some o) → Q (.ref (s.heap.objs.size + 4)) { s with heap := h' }) :
    wpAny (model prog w) A (call (.type "zip") [.str x t, .str y u]) Q E s := by
  refine callType_new F.called_zip (by decide) (F.typeCall_zip_2 _ _) (F.newCall_zip_2 _ _) (fun obj => F.args_object_init_3 obj _ _) F.entry_zip_new
    (meets_new x y t u hx hy) ?_
  have z1 : (H1 s.heap x t).objs.size = s.heap.objs.size + 1 := Heap.size_push ..
  have z2 : (H2 s.heap x y t u).objs.size = s.heap.objs.size + 2 := by rw [Heap.size_push, z1]
  have z3 : (H3 s.heap x y t u).objs.size = s.heap.objs.size + 3 := by rw [Heap.size_push, z2]
  have z4 : (H4 s.heap x y t u).objs.size = s.heap.objs.size + 4 := by rw [Heap.size_push, z3]
  have z5 : (H5 s.heap x y t u).objs.size = s.heap.objs.size + 5 := by rw [Heap.size_push, z4]
  have g5 : (H5 s.heap x y t u).get? (H4 s.heap x y t u).objs.size = some _ := Heap.get?_push_size _ rfl
  have g4 : (H5 s.heap x y t u).get? (H3 s.heap x y t u).objs.size = some _ := Heap.get?_push_of_some _ (Heap.get?_push_size _ rfl)
  have g3 : (H5 s.heap x y t u).get? (H2 s.heap x y t u).objs.size = some _ := Heap.get?_push_of_some _ (Heap.get?_push_of_some _ (Heap.get?_push_size _ rfl))
  have g2 : (H5 s.heap x y t u).get? (H1 s.heap x t).objs.size = some _ := Heap.get?_push_of_some _ (Heap.get?_push_of_some _ (Heap.get?_push_of_some _ (Heap.get?_push_size _ rfl)))
  have g1 : (H5 s.heap x y t u).get? s.heap.objs.size = some _ := Heap.get?_push_of_some _ (Heap.get?_push_of_some _ (Heap.get?_push_of_some _ (Heap.get?_push_of_some _ (Heap.get?_push_size _ rfl))))
  show _ ∧ _
  rw [z2, z3, z4] at g5
  rw [z1, z2] at g3
  rw [z3] at g4
  rw [z1] at g2
  rw [z4]
  exact ⟨⟨_, g5, rfl⟩, h _ g5 g3 g4 ⟨_, g1, rfl, rfl⟩ ⟨_, g2, rfl, rfl⟩ z5 fun c o x =>
    Heap.get?_push_of_some _ (Heap.get?_push_of_some _ (Heap.get?_push_of_some _ (Heap.get?_push_of_some _ (Heap.get?_push_of_some _ x))))⟩
end
/-- the signs of x and y, in new pairs -/
def Itz2 (x y : Str) : It :=
  ⟨fun i _ => i < x.cps.size ∧ i < y.cps.size,
    fun i H v H' => ∃ T c d, v = .ref T ∧ H T = none ∧ H' = upd H T (.tup [.str ⟨#[c]⟩, .str ⟨#[d]⟩]) ∧ x.cps[i]? = some c ∧ y.cps[i]? = some d,
    fun i _ => x.cps.size ≤ i ∨ y.cps.size ≤ i⟩
theorem turn_zip2 {P : Program} {w : World} {K : PySem.W.Frag} {elts : List Expr} {kk : Nat} {tpos : Pos} {z TI TO i1 i2 : Addr} {x y : Str} {t u : Tok} (D : Ap z TI TO i1 i2) :
    Turn P w K (.Tuple elts kk tpos) (Itz2 x y) [z, TI, TO, i1, i2] z (fun i h => IsZip h z TI TO .none ∧ IsPair h TI (.ref i1) (.ref i2) ∧ (∃ a b, IsPair h TO a b) ∧ SI h i1 x t i ∧ SI h i2 y u i) where
  mem := by simp
  obj := fun i h st c hc => by
    obtain ⟨hz, hTI, ⟨a, b, hTO⟩, ⟨o1, e1, _, d1⟩, ⟨o2, e2, _, d2⟩⟩ := st
    have e' : c = z ∨ c = TI ∨ c = TO ∨ c = i1 ∨ c = i2 := by simpa using hc
    rcases e' with q | q | q | q | q
    · rw [q]; exact ⟨_, hz, fun v q => nomatch q⟩
    · rw [q]; exact ⟨_, hTI, fun v q => nomatch q⟩
    · rw [q]; exact ⟨_, hTO, fun v q => nomatch q⟩
    · rw [q]; exact ⟨o1, e1, fun v q => by rw [d1] at q; cases q⟩
    · rw [q]; exact ⟨o2, e2, fun v q => by rw [d2] at q; cases q⟩
  keep := fun i h h' st k => by
    obtain ⟨hz, hTI, ⟨a, b, hTO⟩, h1, h2⟩ := st
    exact ⟨k z (by simp) _ hz, k TI (by simp) _ hTI, ⟨a, b, k TO (by simp) _ hTO⟩, h1.at fun o q => k i1 (by simp) o q, h2.at fun o q => k i2 (by simp) o q⟩
  item := by
    intro X hP hw hK hc i pins s σ H E I hf st hg
    subst hP hw hK
    obtain ⟨hz, hTI, ⟨a, b, hTO⟩, h1, h2⟩ := st
    obtain ⟨lx, ly⟩ := hg
    have hx : x.cps[i]? = some x.cps[i] := Array.getElem?_eq_getElem lx
    have hy : y.cps[i]? = some y.cps[i] := Array.getElem?_eq_getElem ly
    have hzl : z < s.heap.objs.size := Heap.lt_size hz
    refine next_item D hz hTI hTO h1 h2 hx hy fun h' tk v w rv rw' z' TO' h1' h2' hT hsz hk => ?_
    refine ⟨_, rfl, wpAny_letOwnedTupleGo_zip (s := { s with heap := h', toks := tk }) z' fun h'' z'' sb => ?_⟩
    have hT2 : h''.get? s.heap.objs.size = some { cls := .type "tuple", data := .seq #[v, w] } := (sb.2 _ (Nat.ne_of_gt hzl)).trans hT
    have new : ObjOk X.prog X.w (upd H s.heap.objs.size (.tup [.str ⟨#[x.cps[i]]⟩, .str ⟨#[y.cps[i]]⟩])) h'' s.heap.objs.size (.tup [.str ⟨#[x.cps[i]]⟩, .str ⟨#[y.cps[i]]⟩]) :=
      ⟨by show 2 ≤ sizeLine; decide, [v, w], .cons rv (.cons rw' .nil), ⟨_, hT2, rfl, _, rfl⟩⟩
    have I1 : Inv X pins σ (upd H s.heap.objs.size (.tup [.str ⟨#[x.cps[i]]⟩, .str ⟨#[y.cps[i]]⟩])) { s with heap := h'', toks := tk } :=
      I.turnedNew (t' := tk) (ch := [z, TI, TO, i1, i2]) (fun c o hb q => (sb.2 c (fun q' => hb (by simp [q']))).trans (hk c o (fun q' => hb (by simp [q'])) (fun q' => hb (by simp [q'])) (fun q' => hb (by simp [q'])) (fun q' => hb (by simp [q'])) q)) hf (Nat.le_refl _) new
    refine ⟨.ref s.heap.objs.size, _, I1, rfl, ⟨_, _, _, rfl, I.hok.fresh (Nat.le_refl _), rfl, hx, hy⟩, ⟨z'', ?_, ⟨v, w, ?_⟩, ?_, ?_⟩, fun c hcm => ?_⟩
    · exact (sb.2 _ D.TIz).trans (hk _ _ D.TIz D.TITO D.TIi1 D.TIi2 hTI)
    · exact (sb.2 _ D.TOz).trans TO'
    · exact h1'.at fun o q => (sb.2 _ D.i1z).trans q
    · exact h2'.at fun o q => (sb.2 _ D.i2z).trans q
    · have hlt : c < s.heap.objs.size := by
        have e' : c = z ∨ c = TI ∨ c = TO ∨ c = i1 ∨ c = i2 := by simpa using hcm
        rcases e' with q | q | q | q | q
        · rw [q]; exact hzl
        · rw [q]; exact Heap.lt_size hTI
        · rw [q]; exact Heap.lt_size hTO
        · rw [q]; obtain ⟨_, e1, _⟩ := h1; exact Heap.lt_size e1
        · rw [q]; obtain ⟨_, e2, _⟩ := h2; exact Heap.lt_size e2
      rw [upd_ne (Nat.ne_of_lt hlt)]
      exact (hf c hcm).1
  done := by
    intro X hP hw hK hc i pins s σ H E I hf st hg
    subst hP hw hK
    obtain ⟨hz, hTI, ⟨a, b, hTO⟩, h1, h2⟩ := st
    have he : x.cps[i]? = none ∨ y.cps[i]? = none := hg.elim (fun q => .inl (Array.getElem?_eq_none q)) fun q => .inr (Array.getElem?_eq_none q)
    exact next_end (I.ok.hd hc) D hz hTI hTO h1 h2 he fun h' tk hk => ⟨rfl, I.turnedL (t' := tk) (ch := [z, TI, TO, i1, i2]) (fun c o hb q =>
      hk c o (fun q' => hb (by simp [q'])) (fun q' => hb (by simp [q'])) (fun q' => hb (by simp [q'])) (fun q' => hb (by simp [q'])) q) hf⟩
  self := fun A i s Q E st h => wpAny_pyIter_zip st.1 h
def iZip2 (ta : TA) : TI := fun σ H R => ta σ H fun vs H1 => ∃ x y, vs = [.str x, .str y] ∧ x.cps.all (· < 128) = true ∧ y.cps.all (· < 128) = true ∧ R (Itz2 x y) H1
theorem pi_zip2 {X : Cx} {e e2 : Expr} {ta : TA} {p pos tpos : Pos} {elts : List Expr} {kk : Nat} (hg : Gl X "zip") (hm : X.mg "zip" = none) (ha : PA X [e, e2] ta)
    (hs : starEach [e, e2] X.env = (false, eval e X.env) :: starEach [e2] X.env := by rfl) (hpl : (backTo pos (starEach [e2] X.env)).any (·.1) = false := by rfl) :
    PI X (.Tuple elts kk tpos) (.Call (.Name "zip" p) [e, e2] [] pos) (iZip2 ta) := by
  refine ⟨fun pins s σ H R I h => ?_⟩
  refine Call_ (ld_blt I hg hm PyProof.Rows.boot_zip (PyProof.Rows.callWith_type1 (thn (ha.run pos pins s σ H _ I h) fun us s1 ⟨vs, H1, I1, r1, q1⟩ => ?_) hs hpl))
  obtain ⟨x, y, ex, ax, ay, q⟩ := q1
  subst ex
  cases r1 with
  | cons r rr =>
    cases rr with
    | cons r' rr =>
      cases rr
      obtain ⟨t, rfl⟩ := r
      obtain ⟨u, rfl⟩ := r'
      refine call_new ax ay fun h' hz hTI hTO h1 h2 hsz hk => wpAny_pyIter_zip hz ?_
      have I2 : Inv X pins σ H1 { s1 with heap := h' } := I1.kept (t' := s1.toks) hk
      refine ⟨s1.heap.objs.size + 4, [s1.heap.objs.size + 4, s1.heap.objs.size + 2, s1.heap.objs.size + 3, s1.heap.objs.size, s1.heap.objs.size + 1], _, _, H1, rfl, I2, turn_zip2 (ap_new s1.heap.objs.size), ⟨hz, hTI, ⟨_, _, hTO⟩, h1, h2⟩, fun c hcm => ?_, q⟩
      have hle : s1.heap.objs.size ≤ c := by
        have e' : c = s1.heap.objs.size + 4 ∨ c = s1.heap.objs.size + 2 ∨ c = s1.heap.objs.size + 3 ∨ c = s1.heap.objs.size ∨ c = s1.heap.objs.size + 1 := by simpa using hcm
        rcases e' with z | z | z | z | z
        · rw [z]; exact Nat.le_add_right _ _
        · rw [z]; exact Nat.le_add_right _ _
        · rw [z]; exact Nat.le_add_right _ _
        · rw [z]; exact Nat.le_refl _
        · rw [z]; exact Nat.le_add_right _ _
      exact I1.fpOk hle (I1.hok.fresh hle)
end ZS
namespace G
open PySem PySem.Spec PySem.Calls PyProof.Rows L2
section
variable {X : Cx} {CX : CXT} {k : Nat} {C p g : Addr} {mc : Value} {sp : Sp} {E : XK} {o e : Expr} {es : List Expr} {f m : Str} {pos apos : Pos} {ta : TE} {pl : Sem Bool} {fd : FuncData} {ps : List Str} {dvs : List V} {ds : List Value}
/-- C.m(), m a static method -/
theorem pe_smeth0 (he : PE X o ta) (r : ClX.CRead X.K C mc) (c : SMet X.K C mc m g) (F : FnG X.prog X.w X.K X.mg X.base CX k g fd ps sp) (hr : RoomG k X.A) (hb : Binds X.K fd ps ds) (hd : Vals dvs ds) (hx : Passes CX X E)
    (ht : eval (.Call (.Attribute o m apos) [] [] pos) X.env = (do
      let ov ← eval o X.env
      standAt apos.atName
      let (f, first) ← holding [ov] (getMethod ov m pl)
      callWith pos f first (backTo pos (starEach [] X.env)) (backToKw pos (keywordEach [] X.env))) := by rfl) :
    PE X (.Call (.Attribute o m apos) [] [] pos) (tSM C sp dvs E ta tNil) := by
  refine ⟨fun pins s σ H Q I h => ?_⟩
  refine PySem.W.methodCall_KW (pl := pl) (thn (he.run pins s σ H _ I h) fun u s1 ⟨x, H1, I1, rx, ex, q⟩ => ?_) ht
  subst ex
  obtain rfl : u = Value.ref C := rx
  obtain ⟨p, rest, h1, h2⟩ := c.ex
  refine PySem.W.method_cls I1.kIn r.ga (PySem.W.cls_bind I1.kIn r.rd h1 (wpAny_call (PySem.W.sm_get (s := { s1 with toks := s1.toks + 1 }) I1.kIn h2 (PySem.W.handed_on rfl ?_))))
  have I2 := I1.tok (s1.toks + 1)
  exact PySem.W.callWith_K0 (first := []) I2.kIn c.kp (run_fnG (us := []) (vs := []) F hr hb hd hx I2 .nil q)
end
/-! ### constants of a class, texts of the module -/
section
variable {ex : List ExB} {fn : List He5.DefA} {K : PySem.W.Frag} {mg : Str → Option Value}
def cintB (x f : Str) (i : Int) : ExB := fun K => match PySem.W.findCls K (.ref (He.ga K x)) (.type "type") f with
  | some (.val (.int j _)) => decide (i = j)
  | _ => false
theorem cintB_ok {x f : Str} {i : Int} (h : cintB x f i K = true) : ∃ u, ClX.CVal K (He.ga K x) (.type "type") f (.int i) u := by
  unfold cintB at h
  split at h
  · rename_i j t e
    have := of_decide_eq_true h
    subst this
    exact ⟨_, e, ⟨_, rfl⟩⟩
  · cases h
def gstrB (x : Str) (i : Str) : ExB := fun K => match PySem.W.nsIn K mainGlobals x with
  | some (some (.str j _)) => decide (i = j)
  | _ => false
theorem gstr_ok (T : Txt ex fn K mg) (n : Nat) (x : Str) {i : Str} (h : ex[n]? = some (gstrB x i)) : ∃ u, mg x = some (.str i u) := by
  have c := T.fact n h
  unfold gstrB at c
  split at c
  · rename_i j u e
    have := of_decide_eq_true c
    subst this
    exact ⟨u, T.glo x _ e⟩
  · cases c
/-- C.f, a constant -/
def tCK (K : PySem.W.Frag) (v : V) (ta : TE) (C : Addr) : TE := fun σ H Q => ta σ H fun x H1 => x = .ref C ∧ Q v H1
end
section
variable {X : Cx} {C : Addr} {e : Expr} {f : Str} {ta : TE} {pos : Pos} {v : V}
theorem pe_ck (he : PE X e ta) (r : ClX.CRead X.K C (.type "type")) (c : ∃ u, ClX.CVal X.K C (.type "type") f v u) (hb : attributeBase e f X.env (eval e X.env) = eval e X.env := by rfl) : PE X (.Attribute e f pos) (tCK X.K v ta C) := by
  refine ⟨fun pins s σ H Q I h => ?_⟩
  obtain ⟨w, c⟩ := c
  refine attr_of hb (thn (he.run pins s σ H _ I h) fun u s1 ⟨x, H1, I1, rx, ex, q⟩ => ?_)
  subst ex
  obtain rfl : u = Value.ref C := rx
  exact ClX.getcval_ok I1 r c fun s2 I2 => ⟨v, H1, I2, c.rel, q⟩
end
/-! ### a, b, .. = a text in ASCII of that length -/
section
variable {prog : Program} {w : World} {A : Around} {E : Value → Shared → Prop} {s : Shared}
abbrev signs (x : Str) : List V := x.cps.toList.map fun c => .str ⟨#[c]⟩
theorem drawS {it : Addr} {x : Str} {t : Tok} : ∀ (n i : Nat) (s : Shared) (Q : List Value → Shared → Prop), ZS.SI s.heap it x t i → i + n ≤ x.cps.size →
    (∀ h' tk us, ZS.SI h' it x t (i + n) → Heap.SameBut it s.heap h' → Vals ((signs x).drop i |>.take n) us → Q us { s with heap := h', toks := tk }) → wpAny (model prog w) A (draw (.ref it) n) Q E s
  | 0, i, s, Q, hit, _, hQ => by
    show wpAny _ _ (pure []) Q E s
    exact wpAny_pure (by have := hQ s.heap s.toks [] (by simpa using hit) (Heap.SameBut.refl ..) (by rw [List.take_zero]; exact .nil); exact this)
  | n + 1, i, s, Q, hit, hle, hQ => by
    have hlt : i < x.cps.size := by omega
    show wpAny _ _ (pyNext (.ref it) >>= _) Q E s
    refine wpAny_bind (wpAny_pyNext_ascii_item hit (c := x.cps[i]) (by simp [hlt]) fun h₁ hit₁ hs₁ => ?_)
    refine wpAny_bind (wpAny_holding (drawS n (i + 1) _ _ hit₁ (by omega) fun h₂ tk us hit₂ hs₂ r => wpAny_pure ?_))
    have hd : (signs x).drop i = .str ⟨#[x.cps[i]]⟩ :: (signs x).drop (i + 1) := by simp [signs, List.drop_eq_getElem_cons, hlt]
    have := hQ h₂ tk (.str ⟨#[x.cps[i]]⟩ s.toks :: us) (by rw [show i + (n + 1) = i + 1 + n by omega]; exact hit₂) (hs₁.trans hs₂) (by rw [hd, List.take_succ_cons]; exact .cons ⟨_, rfl⟩ r)
    exact this
theorem itemsS {x : Str} {t : Tok} {n : Nat} {Q : List Value → Shared → Prop} (hh : A.handled = none) (ha : x.cps.all (· < 128) = true) (hn : x.cps.size = n)
    (hQ : ∀ h' tk us, Heap.ExtBut s.heap.objs.size s.heap h' → Vals (signs x) us → Q us { s with heap := h', toks := tk }) : wpAny (model prog w) A (unpackItems (.str x t) n none) Q E s := by
  unfold unpackItems
  refine wpAny_bind ?_
  unfold notIterableAtAll
  refine wpAny_bind (wpAny_specialOf (typeIs_str s x t) F.slot_str_iter.lookup ?_)
  refine wpAny_pure ?_
  simp only [Bool.false_eq_true, if_false]
  refine wpAny_bind (wpAny_holding (wpAny_pyIter_ascii ha ?_))
  refine wpAny_bind (wpAny_holding (drawS n 0 _ _ ⟨_, Heap.get?_push_size _ rfl, rfl, rfl⟩ (by omega) fun h₁ tk us hit₁ hs₁ r => ?_))
  have ls : (signs x).length = n := by simp [signs, hn]
  have hall : List.take n (List.drop 0 (signs x)) = signs x := by
    rw [List.drop_zero]; exact List.take_of_length_le (by omega)
  rw [hall] at r
  have lu : us.length = n := by rw [← r.length]; exact ls
  rw [if_neg (by omega)]
  refine wpAny_bind (wpAny_holding (wpAny_pyNext_ascii_end hh hit₁ (by simp; omega) fun h₂ he₂ => ?_))
  simp only [Option.isSome_none, Bool.false_eq_true, if_false]
  exact wpAny_pure (hQ h₂ _ us (fun b o hb e => he₂ b o hb (hs₁.extBut b o hb (Heap.get?_push_of_some _ e))) r)
end
def gStr (n : Nat) (t : TGs) : TG := fun v σ H Q => ∃ x : Str, v = .str x ∧ x.cps.size = n ∧ x.cps.all (· < 128) = true ∧ t (signs x) σ H Q
section
variable {X : Cx} {pos : Pos}
theorem pg_str {es : List Expr} {k : Nat} {t : TGs} {n : Nat} (hc : X.calm = true) (h : PGs X es t)
    (hn : (assignEach es X.env).length = n := by rfl) (hst : (assignEach es X.env).findIdx? (·.1) = none := by rfl) : PG X (.Tuple es k pos) (gStr n t) := by
  refine ⟨fun pins s σ H v u Q I r hw => ?_⟩
  obtain ⟨x, e1, hz, ha, hw⟩ := hw
  subst e1
  obtain ⟨tk, rfl⟩ := (show ∃ t, u = Value.str x t from r)
  rw [PyProof.Rows.assign_Tuple]
  refine wpAny_bind (wpAny_standAt ?_)
  unfold unpack
  rw [hn, hst]
  refine wpAny_bind (wpAny_holding (itemsS (I.ok.hd hc) ha hz fun h' tk us hx r => ?_))
  have I1 : Inv X pins σ H { s with heap := h', toks := tk } := I.kept (t' := tk) fun b o e => hx b o (Nat.ne_of_lt (Heap.lt_size e)) e
  exact h.run pins _ σ H _ _ Q I1 r hw
end
end G
namespace G
open PySem PySem.Spec PySem.Calls PyProof.Rows L2
/-! ### class methods; a class held by a local name -/
def cmA (x m : Str) : PySem.W.Frag → Addr := fun K => He5.wf K (He.ga K x) "classmethod" m
def cmB (x m : Str) : ExB := fun K => He5.wrapB K (He.ga K x) "classmethod" "classmethod.__get__" m && PySem.W.fnIn K (cmA x m K)
structure CMeth (K : PySem.W.Frag) (C : Addr) (mc : Value) (m : Str) (g : Addr) : Prop where
  ex : ∃ p, ClX.CMet K C mc m p g
theorem cmB_ok {K : PySem.W.Frag} {x m : Str} (h : cmB x m K = true) : CMeth K (He.ga K x) (.type "type") m (cmA x m K) := by
  obtain ⟨h1, h2⟩ := He.ba h
  obtain ⟨h3, rest, h4⟩ := He5.wrapB_ok h1
  exact ⟨_, h3, ⟨rest, h4⟩, h2⟩
/-- C.m(..), C an own class, m a class method -/
def tCM (C : Addr) (sp : Sp) (dvs : List V) (E : XK) (ta : TE) (t : TA) : TE := fun σ H Q => ta σ H fun x H1 => x = .ref C ∧ t σ H1 fun vs H2 => sp (.ref C :: (vs ++ dvs)) H2 Q E
/-- C.m(k = v, ..) -/
def tCMK (C : Addr) (sp : Sp) (gV : List V → List V) (E : XK) (ta : TE) (tk : TA) : TE := fun σ H Q => ta σ H fun x H1 => x = .ref C ∧ tk σ H1 fun zs H2 => sp (.ref C :: gV zs) H2 Q E
section
variable {X : Cx} {CX : CXT} {k i : Nat} {C g f : Addr} {mc : Value} {sp : Sp} {E : XK} {o e : Expr} {es : List Expr} {x m : Str} {p pos apos : Pos} {ta : TE} {t tk : TA} {pl : Sem Bool} {fd : FuncData} {ps ks : List Str} {dvs : List V} {ds : List Value} {kws : List Keyword} {σ : L2.St} {H : Hp} {Q : VK}
theorem er_un {pins : List (Addr × Obj)} {σ : L2.St} {H : Hp} {Q : VK} {q : Addr} {us : List Value} {kw : List (Str × Value)} {s : Shared} (I : Inv X ((q, PySem.W.methodObj (.ref g) (.ref C)) :: pins) σ H s)
    (run : codeAny (model X.prog X.w) X.A (.call (.ref g) ⟨.ref C :: us, kw⟩) (ER X ((q, PySem.W.methodObj (.ref g) (.ref C)) :: pins) σ Q) s) : wpAny (model X.prog X.w) X.A (call (.ref q) us kw) (EP X pins σ Q) X.xe s :=
  wpAny_call (PySem.W.method_call (ClX.pin_at I) (codeAny_mono run fun r s' z => by
    match r, z with
    | .error _, z => exact z
    | .ok (.ret _), z => exact ClX.unpinE z))
theorem pe_cmG (he : PE X o ta) (r : ClX.CRead X.K C mc) (c : CMeth X.K C mc m g) (F : FnG X.prog X.w X.K X.mg X.base CX k g fd ps sp) (hr : RoomG k X.A) (hb : Binds X.K fd ps ds) (hd : Vals dvs ds) (hx : Passes CX X E) (ha : PA X (e :: es) t)
    (hst : starEach (e :: es) X.env = (false, eval e X.env) :: starEach es X.env := by rfl) (hpl : (backTo pos (starEach es X.env)).any (·.1) = false := by rfl) (ht : MethT X o m apos pos (e :: es) [] pl := by rfl) :
    PE X (.Call (.Attribute o m apos) (e :: es) [] pos) (tCM C sp dvs E ta t) := by
  obtain ⟨pp, c⟩ := c.ex
  refine ⟨fun pins s σ H Q I h => PySem.W.methodCall_KW (pl := pl) (thn (he.run pins s σ H _ I h) fun u s1 ⟨x, H1, I1, rx, ex, q⟩ => ?_) ht⟩
  subst ex
  cases (show u = Value.ref C from rx)
  refine ClX.getmethcm_ok I1 r c fun s2 I2 => ClX.callwith_cm I2 (ClX.base_none I1 (Nat.le_refl _)) c.fi (thn (ha.run pos _ s2 σ H1 _ I2 q) fun us s3 ⟨vs, H2, I3, rv, q2⟩ => ⟨⟨ClX.pin_at I3, I3.kIn⟩, ?_⟩) hst hpl
  have run := run_at (args := ⟨.ref C :: us, []⟩) (ws := .ref C :: (us ++ ds)) F hr I3.env0 hx I3 (hb s3 (.ref C :: us) I3.kIn (len_of (us := .ref C :: us) (vs := .ref C :: vs) F hd (show Vals (V.ref C :: vs) (Value.ref C :: us) from .cons rfl rv) q2)) (show Vals (V.ref C :: (vs ++ dvs)) (Value.ref C :: (us ++ ds)) from .cons rfl (rv.append hd)) q2
  exact er_un I3 run
theorem pe_cmK {gg : List Value → List Value} {gV : List V → List V} (he : PE X o ta) (r : ClX.CRead X.K C mc) (c : CMeth X.K C mc m g) (F : FnG X.prog X.w X.K X.mg X.base CX k g fd ps sp) (hr : RoomG k X.A) (hb : KB0 X.K fd 1 ps ks gg gV) (hx : Passes CX X E) (hkw : PK X kws tk)
    (hall : (backToKw pos (keywordEach kws X.env)).all (·.1.isSome) = true := by rfl) (hks : (backToKw pos (keywordEach kws X.env)).filterMap (·.1) = ks := by rfl)
    (hpl : ((backTo pos (starEach [] X.env)).any (·.1) || (backToKw pos (keywordEach kws X.env)).any (·.1.isNone)) = false := by rfl) (ht : MethT X o m apos pos [] kws pl := by rfl) :
    PE X (.Call (.Attribute o m apos) [] kws pos) (tCMK C sp gV E ta tk) := by
  obtain ⟨pp, c⟩ := c.ex
  refine ⟨fun pins s σ H Q I h => PySem.W.methodCall_KW (pl := pl) (thn (he.run pins s σ H _ I h) fun u s1 ⟨x, H1, I1, rx, ex, q⟩ => ?_) ht⟩
  subst ex
  cases (show u = Value.ref C from rx)
  refine ClX.getmethcm_ok I1 r c fun s2 I2 => PySem.W.callWith_of (P := PySem.W.MethP X.K s1.heap.objs.size g (.ref C)) hpl (PySem.W.keeps_M c.fi) (PyProof.Rows.evalArgs_kw2_nil hall (thn (hkw.run pos _ s2 σ H1 _ I2 q) fun ws s3 ⟨zs, H2, I3, rz, q2⟩ => ⟨⟨ClX.pin_at I3, I3.kIn⟩, ?_⟩))
  rw [hks]
  have rv : Vals (V.ref C :: gV zs) ([Value.ref C] ++ gg ws) := .cons rfl (hb.rel rz)
  have l : ([Value.ref C] ++ gg ws).length = ps.length := by rw [← rv.length]; exact F.len q2
  have run := run_at (args := ⟨[.ref C], ks.zip ws⟩) (ws := [.ref C] ++ gg ws) (vs := .ref C :: gV zs) F hr I3.env0 hx I3 (hb.to s3 [.ref C] ws I3.kIn rfl l) rv q2
  exact er_un I3 run
/-- x(e, ..), x a local name that holds the own class at C -/
def tMakeL (i : Nat) (C : Addr) (sp : Sp) (dvs : List V) (E : XK) (t : TA) : TE := fun σ H Q => σ[i]? = some (some (.ref C)) ∧ tMake C sp dvs E t σ H Q
theorem pe_makeL (M : Mk X.K C f) (F : FnG X.prog X.w X.K X.mg X.base CX k f fd ps sp) (hr : RoomG (k + 1) X.A) (hN : X.N[i]? = some x) (hv : Vis X.env.scope x) (hb : Binds X.K fd ps ds) (hd : Vals dvs ds) (hx : Passes CX X E) (ha : PA X (e :: es) t)
    (hdb : (x == ("__debug__" : Str)) = false := by decide) (hcd : (x == ("__classdict__" : Str)) = false := by decide) (he : starEach (e :: es) X.env = (false, eval e X.env) :: starEach es X.env := by rfl) (hpl : (backTo pos (starEach es X.env)).any (·.1) = false := by rfl) :
    PE X (.Call (.Name x p) (e :: es) [] pos) (tMakeL i C sp dvs E t) := by
  refine ⟨fun pins s σ H Q I ⟨hs, h⟩ => wpAny_Call_Name_kw (thn ((pe_var (pos := p) hN hv hdb hcd).run pins s σ H (fun v H1 => v = .ref C ∧ H1 = H) I ⟨.ref C, hs, rfl, rfl⟩) fun u s1 ⟨v, H1, I1, r1, q1⟩ => ?_)⟩
  obtain ⟨rfl, rfl⟩ := q1
  cases (show u = Value.ref C from r1)
  exact PySem.W.callWith_K (h₀ := X.base) I1.ok.mod.kin M.kp (thn (ha.run pos pins s1 σ _ _ I1 h) fun _ _ ⟨_, _, J, r, q⟩ => ⟨J.kIn, run_makeG M F hr hb hd hx J r q⟩) he hpl
/-- {x}, x of an own class with an own __str__ -/
structure FmtC (K : PySem.W.Frag) (C : Addr) : Prop where
  fm : PySem.W.findIn K (.ref C) "__format__" = some (some (.builtin "object.__format__"))
  mr : PySem.W.mroIn K C (.type "object") = some true
def fmtB (x : Str) : ExB := fun K => He.eqO (PySem.W.findIn K (.ref (He.ga K x)) "__format__") (some (some (.builtin "object.__format__"))) && decide (PySem.W.mroIn K (He.ga K x) (.type "object") = some true)
theorem fmtB_ok {K : PySem.W.Frag} {x : Str} (h : fmtB x K = true) : FmtC K (He.ga K x) := ⟨He.eqO_ok (He.ba h).1, of_decide_eq_true (He.ba h).2⟩
theorem pe_fmtO {te : TE} (m : OwnM X.K C "__str__" g) (F : FnG X.prog X.w X.K X.mg X.base CX k g fd ps sp) (hr : RoomG (k + 1) X.A) (hb : Binds X.K fd ps []) (hx : Passes CX X E) (he : PE X e te) (fc : FmtC X.K C) : PE X (.FormattedValue e (-1) none pos) (tFmtS C sp E te) := by
  refine ⟨fun pins s σ H Q I h => wpAny_FormattedValue_plain (thn (he.run pins s σ H _ I h) fun v s1 ⟨x, H1, I1, r1, a, dx, fs, ex, ha, q⟩ => ?_)⟩
  subst ex
  cases (show v = Value.ref a from r1)
  obtain ⟨ox, od, _, J⟩ := inst_of I1 ha
  have I2 := I1.tok (s1.toks + 1)
  have run := run_at (args := ⟨[.ref a], []⟩) (ws := [.ref a]) (vs := [.ref a]) F hr.in1 (I2.env0.in1) hx I2 (hb _ [.ref a] I2.kIn (by have l := F.len q; exact l)) (.cons rfl .nil) q
  refine PySem.W.kfo_fieldS (by have := hr.in1.units; omega) I1.kIn J fc.fm fc.mr m.at_ m.fn (wpAny_mono (wp_er run) (fun v s' z => ?_) fun _ _ e => e)
  obtain ⟨w, H', I', rw', z, ez, hz, qz⟩ := z
  subst ez
  obtain ⟨t, e⟩ := (show ∃ t, v = Value.str z t from rw')
  subst e
  exact ⟨.str z, H', I', ⟨t, rfl⟩, qz⟩
end
/-! ### stepping -/
section
variable {K : PySem.W.Frag} {C : Addr} {sp : Sp} {E : XK} {dvs : List V} {ta : TE} {t tk : TA} {gV : List V → List V} {σ : L2.St} {H : Hp} {Q : VK} {i : Nat} {z w : Str} {c : Nat} {v : V} {te : TE}
def CMK (x : V) (C : Addr) (R : Prop) : Prop := x = .ref C ∧ R
theorem st_cm (q : ta σ H fun x H1 => CMK x C (t σ H1 fun vs H2 => sp (.ref C :: (vs ++ dvs)) H2 Q E)) : tCM C sp dvs E ta t σ H Q := q
theorem st_cm0 (q : ta σ H fun x H1 => CMK x C (t σ H1 fun vs H2 => sp (.ref C :: vs) H2 Q E)) : tCM C sp [] E ta t σ H Q := by
  unfold tCM
  simp only [List.append_nil]
  exact q
theorem st_cmK (q : ta σ H fun x H1 => CMK x C (tk σ H1 fun zs H2 => sp (.ref C :: gV zs) H2 Q E)) : tCMK C sp gV E ta tk σ H Q := q
theorem st_cmk {R : Prop} (q : R) : CMK (.ref C) C R := ⟨rfl, q⟩
theorem st_makeL (h : σ[i]? = some (some (.ref C))) (q : tMake C sp dvs E t σ H Q) : tMakeL i C sp dvs E t σ H Q := ⟨h, q⟩
/-! texts: slices, signs, parts, times -/
theorem sl_s {lo hi : Option Int} (h : z.length ≤ sizeLine) (q : Q (.str (cutS z lo hi)) H) : rSlG K (.str z) lo hi H Q := .inr (.inr ⟨z, rfl, h, q⟩)
def rInSg : R2 := fun x y H Q => ∃ (c : Nat) (z : Str), x = .str ⟨#[c]⟩ ∧ y = .str z ∧ Q (.bl (decide (c ∈ z.cps.toList))) H
def rNotSg : R2 := fun x y H Q => ∃ (c : Nat) (z : Str), x = .str ⟨#[c]⟩ ∧ y = .str z ∧ Q (.bl (!decide (c ∈ z.cps.toList))) H
theorem op_inSg {X : Cx} : OpR X (compareOp .In) rInSg := op_in_sign
theorem op_notSg {X : Cx} : OpR X (compareOp .NotIn) rNotSg := op_notIn_sign
theorem in_sg (q : Q (.bl (decide (c ∈ z.cps.toList))) H) : rInSg (.str ⟨#[c]⟩) (.str z) H Q := ⟨c, z, rfl, rfl, q⟩
theorem not_sg (q : Q (.bl (!decide (c ∈ z.cps.toList))) H) : rNotSg (.str ⟨#[c]⟩) (.str z) H Q := ⟨c, z, rfl, rfl, q⟩
/-- x.split(y) -/
def rSplG : V → List V → Hp → VK → Prop := fun x xs H Q => ∃ a b, x = .str a ∧ xs = [.str b] ∧ (b.length == 0) = false ∧ a.length + 2 ≤ sizeLine ∧ rNewStrs (Txt.split a b) H Q
theorem pe_splG {X : Cx} {o e : Expr} {to te : TE} {pos apos : Pos} (ho : PE X o to) (he : PE X e te) (hs : starEach [e] X.env = [(false, eval e X.env)] := by rfl) (hbase : attributeBase o "split" X.env (eval o X.env) = eval o X.env := by rfl) (hline : (apos.endLine == pos.line) = true := by rfl) :
    PE X (.Call (.Attribute o "split" apos) [e] [] pos) (tM1 rSplG to te) := pe_split ho he hs hbase hline
def SplA (x : V) (R : Prop) : Prop := (∃ a, x = .str a) ∧ R
theorem st_m1 {r : V → List V → Hp → VK → Prop} {to te : TE} (q : to σ H fun x H1 => SplA x (te σ H1 fun y H2 => r x [y] H2 Q)) : tM1 r to te σ H Q := q
theorem st_sa {R : Prop} (q : R) : SplA (.str z) R := ⟨⟨z, rfl⟩, q⟩
theorem spl_x (h : (w.length == 0) = false) (l : z.length + 2 ≤ sizeLine) (q : ∀ p H', H p = none → Kp H H' → H' p = some (.lst ((Txt.split z w).map V.str)) → Q (.ref p) H') : rSplG (.str z) [.str w] H Q := ⟨z, w, rfl, rfl, h, l, fun p hp => q p _ hp (Kp.new hp) upd_same⟩
def rRepS : R2 := fun x y H Q => ∃ a n, x = .str a ∧ y = .int n ∧ MulOk a n ∧ Q (.str (Txt.mul a n)) H
theorem op_repS {X : Cx} : OpR X (binaryOp .Mult) rRepS := by
  intro pins s σ H x y v u Q I rx ry h
  obtain ⟨a, n, rfl, rfl, ok, q⟩ := h
  obtain ⟨t, rfl⟩ := (show ∃ t, v = Value.str a t from rx)
  obtain ⟨t', rfl⟩ := (show ∃ t, u = Value.int n t from ry)
  exact SB.mul ok fun t2 k => ⟨.str _, H, I.tok k, ⟨t2, rfl⟩, q⟩
theorem rep_s {n : Int} (h : MulOk z n) (q : Q (.str (Txt.mul z n)) H) : rRepS (.str z) (.int n) H Q := ⟨z, n, rfl, rfl, h, q⟩
/-- over the signs of a text -/
def ItsK (x : V) (H1 : Hp) (R : It → Hp → Prop) : Prop := ∃ z, x = .str z ∧ R (Its z) H1
theorem st_iStr {te : TE} {R : It → Hp → Prop} (q : te σ H fun x H1 => ItsK x H1 R) : iStr te σ H R := q
theorem its_s {R : It → Hp → Prop} (q : R (Its z) H) : ItsK (.str z) H R := ⟨z, rfl, q⟩
/-- a comprehension over the signs of a text -/
theorem lc_str {g : TG} {tt : TT} {te : TE} {vs : List Nat} {σ0 : L2.St} (Pv : Addr → Nat → Hp → Prop) (e : wipe σ vs = σ0) (h0 : ∀ D H2, H D = none → Kp H H2 → H2 D = some (.lst []) → Pv D 0 H2)
    (hs : ∀ D i c H', z.cps[i]? = some c → Pv D i H' → g (.str ⟨#[c]⟩) σ0 H' fun σ2 H2 => WipK vs σ2 σ0 (tt σ2 H2 fun b H3 => LcB b te D σ2 H3 (Pv D (i + 1)))) (hd : ∀ D H', Pv D z.cps.size H' → Q (.ref D) H') : LcK (Its z) g tt te vs σ H Q := fun D hD => by
  subst e
  refine ⟨fun i m H' => m = z.cps.size - i ∧ i ≤ z.cps.size ∧ Pv D i H', ⟨_, rfl, Nat.zero_le _, h0 D _ hD (Kp.new hD) upd_same⟩, ?_⟩
  rintro i m H' ⟨rfl, hi, p⟩
  by_cases hlt : i < z.cps.size
  · exact .inr ⟨hlt, Pv D (i + 1), fun H2 p' => ⟨z.cps.size - (i + 1), by omega, rfl, hlt, p'⟩, fun v H2 ⟨eH, c, hc, ev⟩ => by
      subst ev eH
      exact hs D i c _ hc p⟩
  · have : i = z.cps.size := by omega
    subst this
    exact .inl ⟨Nat.le_refl _, hd D H' p⟩
end
end G
namespace G
open PySem PySem.Spec PySem.Calls PyProof.Rows L2
/-! ### == and != of lists whose items are compared by their own defs (the heap may change elsewhere) -/
structure IsL (s : Shared) (l : Addr) (items : Array Value) : Prop where
  ex : ∃ dd n sl, s.heap.get? l = some { cls := Value.type "list", dict := dd, data := Data.seq items n, slots := sl }
def HasL (s : Shared) (l b : Addr) (z : Nat) : Prop := ∃ i1 i2, IsL s l i1 ∧ IsL s b i2 ∧ i1.size = z ∧ i2.size = z
def EqSteps (M : Model) (A : Around) (E : Value → Shared → Prop) (l b : Addr) (z : Nat) : Nat → Nat → (Bool → Shared → Prop) → Shared → Prop
  | 0, _, Q, s => HasL s l b z ∧ Q true s
  | k + 1, i, Q, s => ∃ i1 i2 x y, IsL s l i1 ∧ IsL s b i2 ∧ i1.size = z ∧ i2.size = z ∧ i1[i]? = some x ∧ i2[i]? = some y ∧ wpAny M A.in1 (eqBool x y) (fun c s' => if c = true then EqSteps M A E l b z k (i + 1) Q s' else HasL s' l b z ∧ Q false s') E s
theorem EqSteps.has {M : Model} {A : Around} {E : Value → Shared → Prop} {l b : Addr} {z k i : Nat} {Q : Bool → Shared → Prop} {s : Shared} (h : EqSteps M A E l b z k i Q s) : HasL s l b z := by
  cases k with
  | zero => exact h.1
  | succ k => exact let ⟨i1, i2, _, _, h1, h2, h3, h4, _⟩ := h; ⟨i1, i2, h1, h2, h3, h4⟩
theorem EqSteps.mono {M : Model} {A : Around} {E : Value → Shared → Prop} {l b : Addr} {z : Nat} {Q Q' : Bool → Shared → Prop} (hq : ∀ c s, Q c s → Q' c s) : ∀ {k i : Nat} {s : Shared}, EqSteps M A E l b z k i Q s → EqSteps M A E l b z k i Q' s
  | 0, _, _, h => ⟨h.1, hq _ _ h.2⟩
  | k + 1, i, s, ⟨i1, i2, x, y, h1, h2, h3, h4, h5, h6, h7⟩ => ⟨i1, i2, x, y, h1, h2, h3, h4, h5, h6, wpAny_mono h7 (fun c s' h => by
      cases c
      · exact ⟨h.1, hq _ _ h.2⟩
      · exact EqSteps.mono hq h) fun _ _ e => e⟩
theorem wp_items {M : Model} {A : Around} {E : Value → Shared → Prop} {Q : Array Value → Shared → Prop} {s : Shared} {l : Addr} {items : Array Value} (hl : IsL s l items) (h : Q items s) : wpAny M A (Builtin.List.listItems (.ref l)) Q E s := by
  obtain ⟨dd, n, sl, hl⟩ := hl.ex
  delta Builtin.List.listItems
  refine wpAny_bind ?_
  refine wpAny_bind ?_
  exact wpAny_load' hl (wpAny_pure (wpAny_pure h))
section
variable {prog : Program} {w : World} {A : Around} {E : Value → Shared → Prop} {R : Result → Shared → Prop}
theorem eq_loopO (b0 : Bool) (hE : ∀ e s, E e s → R (.error e) s) (l b : Addr) (z : Nat) (k : Nat) : ∀ (i : Nat) (s : Shared), z - i = k → i ≤ z →
    EqSteps (model prog w) A E l b z k i (fun c s' => R (.ok (.ret (.bool (c == b0)))) s') s →
    wpAny (model prog w) A.in1 (Builtin.«list.__eq__.loop» { pos := [.ref l, .ref b, rawInt ↑i, rawInt (if b0 = true then 2 else 3)] })
      (fun fin s' => match fin with
        | Fin.done f => R (Except.ok f) s'
        | Fin.again c' => c'.quiet = true ∧ codeAny (model prog w) A c' R s') (fun e s' => R (Except.error e) s') s := by
  induction k with
  | zero =>
    intro i s hk hi h
    obtain ⟨⟨items, items2, hl, hb, z1, z2⟩, h⟩ := h
    have e1 : items[i]? = none := by rw [Array.getElem?_eq_none_iff]; omega
    have e2 : items2[i]? = none := by rw [Array.getElem?_eq_none_iff]; omega
    cases b0
    all_goals
      delta Builtin.«list.__eq__.loop»
      refine wpAny_bind (wp_items hl ?_)
      refine wpAny_bind (wp_items hb ?_)
      dsimp only [Int.toNat_natCast]
      rw [e1, e2]
      refine wpAny_bind (wp_items hl ?_)
      refine wpAny_bind (wp_items hb ?_)
      refine wpAny_pure ?_
      rw [z1, z2]
      first
        | (show R (Except.ok (Flow.ret (Value.bool (z == z)))) s; simpa using h)
        | (show R (Except.ok (Flow.ret (Value.bool (z != z)))) s; simpa using h)
  | succ k ih =>
    intro i s hk hi h
    obtain ⟨items, items2, x, y, hl, hb, z1, z2, hx, hy, h⟩ := h
    cases b0
    all_goals
      delta Builtin.«list.__eq__.loop»
      refine wpAny_bind (wp_items hl ?_)
      refine wpAny_bind (wp_items hb ?_)
      dsimp only [Int.toNat_natCast]
      rw [hx, hy]
      refine wpAny_bind ?_
      refine wpAny_mono h ?_ ?_
      · intro c s' hc
        cases c
        · rw [if_neg (by decide)] at hc ⊢
          obtain ⟨⟨j1, j2, hl', hb', y1, y2⟩, hc⟩ := hc
          obtain ⟨x', hx'⟩ : ∃ x, j1[i]? = some x := ⟨_, Array.getElem?_eq_getElem (by omega)⟩
          obtain ⟨y', hy'⟩ : ∃ y, j2[i]? = some y := ⟨_, Array.getElem?_eq_getElem (by omega)⟩
          refine wpAny_bind (wp_items hl' ?_)
          refine wpAny_bind (wp_items hb' ?_)
          rw [hx', hy']
          exact wpAny_pure hc
        · rw [if_pos rfl] at hc ⊢
          refine wpAny_pure ⟨plainId_quiet MeetsSeq3.plain_eq_loop _, codeAny_builtin MeetsSeq3.entry_eq_loop ?_⟩
          exact ih (i + 1) s' (by omega) (by omega) hc
      · exact fun e s' he => hE e s' he
theorem call_of {T : String} {name : Str} {id : String} {B : Builtin} {self : Value} {rest : List Value} {s : Shared} {Q : Value → Shared → Prop} (slot : Slot T name id) (hT : s.TypeIs self T) (entry : entryFor table id = some B) (args : argsOk id { pos := self :: rest })
    (h : wpAny (model prog w) A.in1 (B { pos := self :: rest }) (fun fin s' => match fin with
        | Fin.done f => wants Q E (Except.ok f) s'
        | Fin.again c' => c'.quiet = true ∧ codeAny (model prog w) A c' (wants Q E) s') (fun e s' => wants Q E (Except.error e) s') s) : wpAny (model prog w) A (call (Value.builtin id) (self :: rest)) Q E s :=
  wpAny_call (codeAny_call_builtin slot.plain entry (slot.check (model prog w) A.in1 (fun e s' => wants Q E (Except.error e) s') s self rest [] (fun _ s₁ => wpAny (model prog w) A.in1 (B { pos := self :: rest }) (fun fin s' => match fin with
        | Fin.done f => wants Q E (Except.ok f) s'
        | Fin.again c' => c'.quiet = true ∧ codeAny (model prog w) A c' (wants Q E) s') (fun e s' => wants Q E (Except.error e) s') s₁) hT args h))
theorem list_cmpO (b0 : Bool) (l b : Addr) (z : Nat) {Q : Value → Shared → Prop} {s : Shared} (hu : A.units < cLine)
    (h : EqSteps (model prog w) A E l b z z 0 (fun c s' => Q (.bool (c == b0)) s') s) :
    wpAny (model prog w) A (compareOp (if b0 = true then .Eq else .NotEq) (.ref l) (.ref b)) Q E s := by
  obtain ⟨items, items2, il, ib, z1, z2⟩ := h.has
  have hsz : items.size = items2.size := by omega
  obtain ⟨dd, n, sl, hl⟩ := il.ex
  obtain ⟨dd2, n2, sl2, hb⟩ := ib.ex
  have f3 := AutoSeq1.sub_list_list
  have h' : EqSteps (model prog w) A E l b z z 0 (fun c s' => wants (fun v s' => v ≠ Value.notImplemented ∧ Q v s') E (.ok (.ret (.bool (c == b0)))) s') s :=
    h.mono fun c s q => (⟨(by intro z; cases z), q⟩ : Value.bool (c == b0) ≠ Value.notImplemented ∧ Q (Value.bool (c == b0)) s)
  have L := eq_loopO (R := wants (fun v s' => v ≠ Value.notImplemented ∧ Q v s') E) b0 (fun _ _ e => e) l b z z 0 s (by omega) (by omega) h'
  have ta : Shared.TypeIs s (.ref l) "list" := ⟨_, hl, rfl⟩
  have tb : Shared.TypeIs s (.ref b) "list" := ⟨_, hb, rfl⟩
  cases b0
  · rw [if_neg (by decide)]
    show wpAny (model prog w) A (richCompare .NotEq (.ref l) (.ref b)) Q E s
    refine wpAny_richCompare_same_room (id := "list.__ne__") (T := "list") ta tb F.slot_list_ne (call_of F.slot_list_ne ta F.entry_list_ne (F.args_list_ne_2 _ _) ?_) hu
    refine wpAny_bind ?_
    delta slotArgs
    refine wpAny_ite_false rfl (wpAny_ite_false rfl (wpAny_pure ?_))
    refine wpAny_bind ?_
    refine wpAny_bind ?_
    refine wpAny_bind ?_
    refine wpAny_loadPart' hb (wpAny_pure (wpAny_of_eq f3 ?_))
    refine wpAny_ite_false rfl (wpAny_ite_true rfl ?_)
    refine wpAny_bind (wp_items il ?_)
    refine wpAny_bind (wp_items ib ?_)
    rw [hsz]
    refine wpAny_ite_false (by simp) ?_
    exact wpAny_pure ⟨plainId_quiet MeetsSeq3.plain_eq_loop _, codeAny_builtin MeetsSeq3.entry_eq_loop L⟩
  · rw [if_pos rfl]
    show wpAny (model prog w) A (richCompare .Eq (.ref l) (.ref b)) Q E s
    refine wpAny_richCompare_same_room (id := "list.__eq__") (T := "list") ta tb F.slot_list_eq (call_of F.slot_list_eq ta F.entry_list_eq (F.args_list_eq_2 _ _) ?_) hu
    refine wpAny_bind ?_
    delta slotArgs
    refine wpAny_ite_false rfl (wpAny_ite_false rfl (wpAny_pure ?_))
    refine wpAny_bind ?_
    refine wpAny_bind ?_
    refine wpAny_bind ?_
    refine wpAny_loadPart' hb (wpAny_pure (wpAny_of_eq f3 ?_))
    refine wpAny_ite_false rfl (wpAny_ite_true rfl ?_)
    refine wpAny_bind (wp_items il ?_)
    refine wpAny_bind (wp_items ib ?_)
    rw [hsz]
    refine wpAny_ite_false (by simp) ?_
    exact wpAny_pure ⟨plainId_quiet MeetsSeq3.plain_eq_loop _, codeAny_builtin MeetsSeq3.entry_eq_loop L⟩
end
/-- items compared one by one -/
def StepsV (r : R2) (a b : Addr) (xs ys : List V) : List (V × V) → Hp → (Bool → Hp → Prop) → Prop
  | [], H, Q => (H a = some (.lst xs) ∧ H b = some (.lst ys)) ∧ Q true H
  | (x, y) :: t, H, Q => (H a = some (.lst xs) ∧ H b = some (.lst ys)) ∧ (∃ p, x = .ref p ∧ y ≠ .ref p) ∧ r x y H (fun v H' => ∃ c, v = .bl c ∧ if c = true then StepsV r a b xs ys t H' Q else (H' a = some (.lst xs) ∧ H' b = some (.lst ys)) ∧ Q false H')
def rEqLO (b0 : Bool) (r : R2) : R2 := fun x y H Q => ∃ a b xs ys, x = .ref a ∧ y = .ref b ∧ xs.length = ys.length ∧ StepsV r a b xs ys (xs.zip ys) H fun c H' => Q (.bl (c == b0)) H'
section
variable {X : Cx}
abbrev in1X (X : Cx) : Cx := { X with A := X.A.in1 }
theorem inv_in1 {pins : List (Addr × Obj)} {σ : L2.St} {H : Hp} {s : Shared} (I : Inv X pins σ H s) : Inv (in1X X) pins σ H s :=
  ⟨⟨I.ok.mod, I.ok.kind, I.ok.glob, I.ok.blt, I.ok.above, I.ok.inj, I.ok.has, I.ok.cab, I.ok.hd, I.ok.frames, I.ok.stk, I.ok.exf, I.ok.bs, I.ok.bsz, I.ok.noex, I.ok.exfs, I.ok.funs, I.ok.frf⟩,
    I.os, I.bare, I.base, I.loc, I.cell, I.free, I.freeC, I.pin, I.hok, I.len⟩
theorem inv_out1 {pins : List (Addr × Obj)} {σ : L2.St} {H : Hp} {s : Shared} (I : Inv (in1X X) pins σ H s) : Inv X pins σ H s :=
  ⟨⟨I.ok.mod, I.ok.kind, I.ok.glob, I.ok.blt, I.ok.above, I.ok.inj, I.ok.has, I.ok.cab, I.ok.hd, I.ok.frames, I.ok.stk, I.ok.exf, I.ok.bs, I.ok.bsz, I.ok.noex, I.ok.exfs, I.ok.funs, I.ok.frf⟩,
    I.os, I.bare, I.base, I.loc, I.cell, I.free, I.freeC, I.pin, I.hok, I.len⟩
theorem paired_len {α β : Type} {R : α → β → Prop} {xs : List α} {ys : List β} (h : Paired R xs ys) : xs.length = ys.length := by
  induction h with
  | nil => rfl
  | cons _ _ ih => simp [ih]
theorem paired_at {α β : Type} {R : α → β → Prop} {xs : List α} {ys : List β} (h : Paired R xs ys) : ∀ {i : Nat} {x : α}, xs[i]? = some x → ∃ y, ys[i]? = some y ∧ R x y := by
  induction h with
  | nil => intro i x e; simp at e
  | cons r _ ih =>
    intro i x e
    cases i with
    | zero => simp only [List.getElem?_cons_zero, Option.some.injEq] at e; subst e; exact ⟨_, by simp, r⟩
    | succ i => simp only [List.getElem?_cons_succ] at e; obtain ⟨y, e2, r2⟩ := ih e; exact ⟨y, by simpa using e2, r2⟩
theorem lst_at {P : Program} {w : World} {H : Hp} {s : Shared} {a : Addr} {xs : List V} (I : HOk P w H s.heap) (e : H a = some (.lst xs)) : ∃ its, Vals xs its ∧ IsL s a its.toArray := by
  have z := I a _ e
  unfold ObjOk at z
  obtain ⟨_, its, n, v, g⟩ := z
  exact ⟨its, v, ⟨_, n, _, g⟩⟩
theorem ref_beq {p : Addr} {y : V} {v : Value} (n : y ≠ .ref p) (r : RelV y v) : (Value.ref p == v) = false := by
  cases y with
  | non => cases (show v = .none from r); rfl
  | bl b => cases (show v = .bool b from r); rfl
  | int i => obtain ⟨t, rfl⟩ := (show ∃ t, v = .int i t from r); rfl
  | str i => obtain ⟨t, rfl⟩ := (show ∃ t, v = .str i t from r); rfl
  | byt i => obtain ⟨t, rfl⟩ := (show ∃ t, v = .bytes i t from r); rfl
  | flt i => obtain ⟨t, rfl⟩ := (show ∃ t, v = .float i t from r); rfl
  | ty i => cases (show v = .type i from r); rfl
  | ref q =>
    cases (show v = .ref q from r)
    have : p ≠ q := fun e => n (by rw [e])
    simpa using this
theorem eqBool_ref {M : Model} {A : Around} {E : Value → Shared → Prop} {Q : Bool → Shared → Prop} {s : Shared} {p : Addr} {y : Value} (n : (Value.ref p == y) = false) (h : wpAny M A (richCompare .Eq (.ref p) y) (fun v s' => ∃ c, v = .bool c ∧ Q c s') E s) : wpAny M A (eqBool (.ref p) y) Q E s := by
  delta eqBool
  refine wpAny_holding ?_
  refine wpAny_ite_false (by rw [n]; rfl) ?_
  show wpAny M A (do let r ← richCompare .Eq (.ref p) y; truthOfDropped r) Q E s
  refine wpAny_bind (wpAny_mono h ?_ fun _ _ e => e)
  rintro v s' ⟨c, rfl, q⟩
  exact wpAny_pure q
theorem steps_of {r : R2} (h : OpR (in1X X) (compareOp .Eq) r) {pins : List (Addr × Obj)} {σ : L2.St} {a b : Addr} {xs ys : List V} (hl : xs.length = ys.length) {Q : Bool → Hp → Prop} (k : Nat) : ∀ (i : Nat) (s : Shared) (H : Hp), xs.length - i = k → i ≤ xs.length → Inv X pins σ H s → StepsV r a b xs ys ((xs.zip ys).drop i) H Q →
    EqSteps (model X.prog X.w) X.A X.xe a b xs.length k i (fun c s' => ∃ H', Inv X pins σ H' s' ∧ Q c H') s := by
  have has : ∀ {s : Shared} {H : Hp}, Inv X pins σ H s → (H a = some (.lst xs) ∧ H b = some (.lst ys)) → HasL s a b xs.length := by
    intro s H I e
    obtain ⟨ia, va, ea⟩ := lst_at (s := s) I.hok e.1
    obtain ⟨ib, vb, eb⟩ := lst_at (s := s) I.hok e.2
    exact ⟨_, _, ea, eb, by rw [List.size_toArray, ← paired_len va], by rw [List.size_toArray, ← paired_len vb, hl]⟩
  induction k with
  | zero =>
    intro i s H hk hi I q
    have hz : (xs.zip ys).drop i = [] := by
      rw [List.drop_eq_nil_iff, List.length_zip]
      omega
    rw [hz] at q
    exact ⟨has I q.1, H, I, q.2⟩
  | succ k ih =>
    intro i s H hk hi I q
    obtain ⟨x, hx⟩ : ∃ x, xs[i]? = some x := ⟨_, List.getElem?_eq_getElem (by omega)⟩
    obtain ⟨y, hy⟩ : ∃ y, ys[i]? = some y := ⟨_, List.getElem?_eq_getElem (by omega)⟩
    have hz : (xs.zip ys).drop i = (x, y) :: (xs.zip ys).drop (i + 1) := by
      have hlen : i < (xs.zip ys).length := by rw [List.length_zip]; omega
      rw [List.drop_eq_getElem_cons hlen]
      congr 1
      rw [List.getElem_zip]
      rw [List.getElem?_eq_some_iff] at hx hy
      obtain ⟨_, h1⟩ := hx
      obtain ⟨_, h2⟩ := hy
      rw [h1, h2]
    rw [hz] at q
    obtain ⟨e, ⟨p, rfl, n⟩, q⟩ := q
    obtain ⟨ia, va, ea⟩ := lst_at (s := s) I.hok e.1
    obtain ⟨ib, vb, eb⟩ := lst_at (s := s) I.hok e.2
    obtain ⟨u, hu, ru⟩ := paired_at va hx
    obtain ⟨v, hv, rv⟩ := paired_at vb hy
    cases (show u = Value.ref p from ru)
    refine ⟨_, _, _, v, ea, eb, by rw [List.size_toArray, ← paired_len va], by rw [List.size_toArray, ← paired_len vb, hl], by simpa using hu, by simpa using hv, eqBool_ref (ref_beq n rv) ?_⟩
    refine wpAny_mono (h pins s σ H _ _ _ _ _ (inv_in1 I) ru rv q) ?_ fun _ _ e => e
    rintro t s' ⟨tv, H', I', rt, c, rfl, q'⟩
    cases (show t = Value.bool c from rt)
    refine ⟨c, rfl, ?_⟩
    cases c
    · rw [if_neg (by decide)] at q' ⊢
      exact ⟨has (inv_out1 I') q'.1, H', inv_out1 I', q'.2⟩
    · rw [if_pos rfl] at q' ⊢
      exact ih (i + 1) s' H' (by omega) (by omega) (inv_out1 I') q'
theorem op_eqLO (b0 : Bool) {r : R2} (h : OpR (in1X X) (compareOp .Eq) r) (hu : X.A.units < cLine) : OpR X (compareOp (if b0 = true then .Eq else .NotEq)) (rEqLO b0 r) := by
  intro pins s σ H x y v u Q I rx ry q
  obtain ⟨a, b, xs, ys, rfl, rfl, hl, q⟩ := q
  cases (show v = Value.ref a from rx)
  cases (show u = Value.ref b from ry)
  refine list_cmpO b0 a b xs.length hu ?_
  refine (steps_of h hl xs.length 0 s H (by omega) (by omega) I (by simpa using q)).mono ?_
  rintro c s' ⟨H', I', q'⟩
  exact ⟨.bl (c == b0), H', I', rfl, q'⟩
theorem op_eqL {r : R2} (h : OpR (in1X X) (compareOp .Eq) r) (hu : X.A.units < cLine) : OpR X (compareOp .Eq) (rEqLO true r) := op_eqLO true h hu
theorem op_neL {r : R2} (h : OpR (in1X X) (compareOp .Eq) r) (hu : X.A.units < cLine) : OpR X (compareOp .NotEq) (rEqLO false r) := op_eqLO false h hu
end
end G
namespace G
open PySem PySem.Spec PyProof.Rows L2
/-! ### a caught exception kept as a value: `except C as error: caught = error`, later isinstance(caught, D), caught.field -/
/-- a caught exception: its class, its dict -/
def ExV (cls : Value) (d : Option Addr) (a : Addr) : HO := .ext fun h => ∃ (oe : Obj) (vs : Array Value), h.get? a = some oe ∧ Zc cls d oe ∧ oe.data = .fields vs
theorem exV_ok {P : Program} {w : World} {H : Hp} {h : Heap} {a : Addr} {cls : Value} {d : Option Addr} {oe : Obj} {vs : Array Value} (e : h.get? a = some oe) (z : Zc cls d oe) (dt : oe.data = .fields vs) : ObjOk P w H h a (ExV cls d a) :=
  ⟨⟨oe, vs, e, z, dt⟩, ⟨oe, e⟩, fun _ _ ⟨o, v, q, r⟩ k => ⟨o, v, k o q, r⟩⟩
theorem HOk.track {P : Program} {w : World} {H : Hp} {h : Heap} {a : Addr} {o : HO} (x : HOk P w H h) (hn : H a = none) (new : ObjOk P w (upd H a o) h a o) : HOk P w (upd H a o) h := fun b u e => by
  by_cases hb : b = a
  · subst hb
    rw [upd_same] at e
    cases e
    exact new
  · rw [upd_ne hb] at e
    exact (x b u e).stay (fun c v _ q => q) (fun c q => by rw [upd_ne (ne_of_none q hn)]; exact q) fun c xs q => by rw [upd_ne (ne_of_none q hn)]; exact q
theorem mem_frs {env : Env} {l : List Env} {b L : Addr} (hf : env.frame = some L) (h : b ∈ frs (env :: l)) : b = L ∨ b ∈ frs l := by
  obtain ⟨e, he, q⟩ := List.mem_filterMap.mp h
  rcases List.mem_cons.mp he with rfl | he
  · left
    rw [hf] at q
    cases q
    rfl
  · exact .inr (List.mem_filterMap.mpr ⟨e, he, q⟩)
section
variable {X : Cx} {pins : List (Addr × Obj)} {σ : L2.St} {H : Hp} {s : Shared}
/-- an exception made since the entry may be tracked -/
theorem _root_.L2.Inv.track {a : Addr} {cls : Value} {d : Option Addr} {oe : Obj} {vs : Array Value} (I : Inv X pins σ H s) (e : s.heap.get? a = some oe) (z : Zc cls d oe) (dt : oe.data = .fields vs) (hn : H a = none) (n0 : X.s_0.heap.get? a = none)
    (nL : a ≠ X.env.locals) (np : ∀ p ∈ X.pn ++ pins, p.1 ≠ a) : Inv X pins σ (upd H a (ExV cls d a)) s := by
  have ne0 : ∀ b o, X.s_0.heap.get? b = some o → b ≠ a := fun b o q r => by
    rw [r, n0] at q
    cases q
  refine ⟨I.ok, I.os, I.bare, ⟨I.base.keep, I.base.slot, fun b o q n hx => ?_, I.base.there, fun b xs q => ?_, fun b o u q => ?_, fun b ps q => ?_⟩, I.loc, I.cell, ?_, fun x c q => ?_, fun p hp => ?_, HOk.track I.hok hn (exV_ok e z dt), I.len⟩
  · rw [upd_ne (ne0 b o q)]
    exact I.base.free b o q n hx
  · have r := I.base.tups b xs q
    rw [upd_ne (ne_of_none r hn)]
    exact r
  · have r := I.base.frzs b o u q
    rw [upd_ne (ne_of_none r hn)]
    exact r
  · obtain ⟨m, r⟩ := I.base.tbls b ps q
    exact ⟨m, by rw [upd_ne (ne_of_none r hn)]; exact r⟩
  · rw [upd_ne fun r => nL r.symm]
    exact I.free
  · have nc : c ≠ a := fun r => by
      obtain ⟨v, o, ho, hd⟩ := I.cell x c q
      rw [r, e] at ho
      cases ho
      rw [dt] at hd
      cases hd
    rw [upd_ne nc]
    exact I.freeC x c q
  · obtain ⟨h1, h2, h3⟩ := I.pin p hp
    exact ⟨h1, by rw [upd_ne (np p hp)]; exact h2, h3⟩
end
/-- a suite whose exception is kept -/
def tsK (ts : Addr → Value → Option Addr → TS) : Addr → Value → Option Addr → TS := fun a cls d D => ts a cls d { nx := fun σ' H' => H' a = none → D.nx σ' (upd H' a (ExV cls d a)), rt := D.rt, bk := D.bk, ct := D.ct }
inductive ClsOkV (X : Cx) : List ExceptHandler → List Cl → Prop
  | nil : ClsOkV X [] []
  /-- the clauses from here on are not asked -/
  | stop {hds : List ExceptHandler} : ClsOkV X hds [(.none, none, fun _ _ _ _ _ _ => False)]
  | one {x : Str} {c : Value} {ts : Addr → Value → Option Addr → TS} {b₀ : Stmt} {suite : List Stmt} {np pos' : Pos} {hds : List ExceptHandler} {l : List Cl} (hc : Names X x c)
      (hsu : ∀ (a : Addr) (oe : Obj) (cls : Value) (d : Option Addr) (pn : List (Addr × Obj)), Zc cls d oe → (∃ vs, oe.data = .fields vs) → PSs (X.suite a ((a, oe) :: pn)) (b₀ :: suite) (ts a cls d)) (r : ClsOkV X hds l) :
      ClsOkV X (.ExceptHandler (some (.Name x np)) none (b₀ :: suite) pos' :: hds) ((c, none, ts) :: l)
  | as {x n : Str} {c : Value} {i : Nat} {ts : Addr → Value → Option Addr → TS} {b₀ : Stmt} {suite : List Stmt} {np pos' : Pos} {hds : List ExceptHandler} {l : List Cl} (hc : Names X x c) (hi : X.N[i]? = some n) (hln : X.env.kindOf n = some .local)
      (hsu : ∀ (a : Addr) (oe : Obj) (cls : Value) (d : Option Addr) (pn : List (Addr × Obj)), Zc cls d oe → (∃ vs, oe.data = .fields vs) → PSs (X.suite a ((a, oe) :: pn)) (b₀ :: suite) (ts a cls d)) (r : ClsOkV X hds l) :
      ClsOkV X (.ExceptHandler (some (.Name x np)) (some n) (b₀ :: suite) pos' :: hds) ((c, some i, ts) :: l)
  /-- kept -/
  | keep {x n : Str} {c : Value} {i : Nat} {ts : Addr → Value → Option Addr → TS} {b₀ : Stmt} {suite : List Stmt} {np pos' : Pos} {hds : List ExceptHandler} {l : List Cl} (hc : Names X x c) (hi : X.N[i]? = some n) (hln : X.env.kindOf n = some .local)
      (hsu : ∀ (a : Addr) (oe : Obj) (cls : Value) (d : Option Addr) (pn : List (Addr × Obj)), Zc cls d oe → (∃ vs, oe.data = .fields vs) → PSs (X.suite a ((a, oe) :: pn)) (b₀ :: suite) (ts a cls d)) (r : ClsOkV X hds l) :
      ClsOkV X (.ExceptHandler (some (.Name x np)) (some n) (b₀ :: suite) pos' :: hds) ((c, some i, tsK ts) :: l)
section
variable {X : Cx} {body : List Stmt} {h₀ : ExceptHandler} {hds : List ExceptHandler} {l : List Cl} {pos : Pos} {tb : WX → TS} {Wout : WX}
theorem ps_try_v (hx0 : X.ex = []) (hs : X.stack = X.env :: X.outer) (hf : X.env.frame = some X.env.locals) (hN : X.N.Nodup) (tk : Takes X Wout)
    (hb : ∀ (W : WX) (pn : List (Addr × Obj)) (xe : Value → Shared → Prop), Takes (X.tr pn xe) W → PassesOwn (model X.prog X.w) X.A X.env xe → PSs (X.tr pn xe) body (tb W))
    (hh : ClsOkV X (h₀ :: hds) l) : PS X (.Try body (h₀ :: hds) [] [] pos) (fun D σ H => tb (wCls X.K X.N.length Wout D l) D σ H) := by
  refine ⟨fun pins s σ H D I h => ?_⟩
  have ok := I.ok
  have hfr : X.A.frames = some (X.env :: X.outer) := by rw [ok.frames, hs]
  refine wpAny_Try_except (wpAny_mono ((hb (wCls X.K X.N.length Wout D l) (X.pn ++ pins) (fun e s₁ => wpAny (model X.prog X.w) X.A (noteFrame e X.env) (fun _ s₂ => wpAny (model X.prog X.w) X.A (setFlight e none) (fun _ s₃ =>
    wpAny (model X.prog X.w) X.A (handleBy e X.env (h₀ :: hds)) (SP X pins D) X.xe s₃) X.xe s₂) X.xe s₁) (fun u s' xx => ?_) PassesOwn.looking).run [] s σ H D (I.toTry _) h) (fun f s1 hsp => ?_) (fun e s1 he => he))
  · obtain ⟨a, B, sI, pins', σ', H', cls, d, rfl, J', nb, up, sky, na, os, ag, w⟩ := xx
    have J : Inv X pins σ' H' sI := J'.ofTry ok
    rw [show (X.tr (X.pn ++ pins) _).stack = X.stack from rfl, hs] at sky
    show wpAny (model X.prog X.w) X.A (noteFrame (.ref a) X.env) _ _ _
    refine Sky.land Zc.steady hfr hf sky fun h3 fl3 up3 => ?_
    have J3 : Inv X pins σ' H' { s' with heap := h3 } := J.landed nb fl3.1 (up.trans up3) os ag
    obtain ⟨oe3, vs3, he3, hz3, hd3⟩ := fl3.there
    have nfr : a ∉ frs (X.env :: X.outer) := fun hm => by
      obtain ⟨_, o', e', hnf⟩ := fl3.2.2.1.mem hm
      rw [he3] at e'
      cases e'
      exact hnf _ hd3
    have nL : a ≠ X.env.locals := fun z => nfr (List.mem_filterMap.mpr ⟨X.env, List.mem_cons_self, by rw [hf, z]⟩)
    have nF : a ∉ X.fs := fun hm => by
      obtain ⟨e, he, q⟩ := List.mem_filterMap.mp hm
      exact nfr (List.mem_filterMap.mpr ⟨e, List.mem_cons_of_mem _ he, q⟩)
    have S3 := J3.suite he3 hd3 na nL nF
    have gN : ∀ b o, sI.heap.get? b = some o → b ∉ frs X.stack → b ≠ a := fun b o e hb z => by
      have q := nb b o e hb
      rw [z] at q
      obtain ⟨_, zn, _⟩ := id fl3
      rw [zn] at q
      cases q
    have n0 : X.s_0.heap.get? a = none := by
      cases e : X.s_0.heap.get? a with
      | none => rfl
      | some o =>
        obtain ⟨o', e'⟩ := J.base.there a o e (by rw [hx0]; exact fun z => nomatch z)
        exact absurd rfl (gN a o' e' (by rw [hs]; exact nfr))
    have npa : ∀ p ∈ X.pn ++ pins, p.1 ≠ a := fun p hp => by
      obtain ⟨e, _, nl, nf, _⟩ := J.pin p hp
      refine gN p.1 p.2 e fun hm => ?_
      rw [hs] at hm
      rcases mem_frs hf hm with z | z
      · exact nl z
      · exact nf z
    have LT : PySem.W.Looks (model X.prog X.w) h3 (typeOf (.ref a)) cls := fun A Q E s k q => wpAny_typeOf_ref (k _ _ he3) (by rw [hz3.1]; exact q)
    -- the class that a clause names
    have test : ∀ {x : Str} {np : Pos} {c : Value} {Q : Value → Shared → Prop} {E : Value → Shared → Prop}, Names X x c → Q c { s' with heap := h3 } → wpAny (model X.prog X.w) (X.A.mark (some (.ref a))) (eval (.Name x np) X.env) Q E { s' with heap := h3 } := fun {x np c Q E} hc q => by
      obtain ⟨hg, hdbg, hm | ⟨hm, hv, hnn⟩⟩ := hc
      · exact ld_glob (X := X.suite a ((a, oe3) :: (X.pn ++ pins))) S3 hg hm q hdbg
      · exact ld_blt (X := X.suite a ((a, oe3) :: (X.pn ++ pins))) S3 hg hm hv q hnn hdbg
    -- the end of a suite
    have ends : ∀ {q : Addr × Obj} {f : Flow} {s6 : Shared}, SP (X.suite a (q :: (X.pn ++ pins))) [] D f s6 → SP X pins D f s6 := fun {q f s6} z => by
      match f, z with
      | .next, ⟨σ6, H6, S6, q6⟩ => exact ⟨_, _, S6.unsuite ok, q6⟩
      | .brk, ⟨σ6, H6, S6, q6⟩ => exact ⟨_, _, S6.unsuite ok, q6⟩
      | .cont, ⟨σ6, H6, S6, q6⟩ => exact ⟨_, _, S6.unsuite ok, q6⟩
      | .ret u, ⟨v6, σ6, H6, S6, r6, q6⟩ => exact ⟨_, _, _, S6.unsuite ok, r6, q6⟩
    have go : ∀ {hds' : List ExceptHandler} {l' : List Cl}, ClsOkV X hds' l' → wCls X.K X.N.length Wout D l' cls d σ' H' → wpAny (model X.prog X.w) X.A (handleBy (.ref a) X.env hds') (SP X pins D) X.xe { s' with heap := h3 } := by
      intro hds' l' hk
      induction hk with
      | nil =>
        intro w
        refine wpAny_handleBy_nil ?_
        obtain ⟨k1, k2, k3, oe, vs, T, oT, ts', he, hz, hd, h1, hr⟩ := id fl3
        unfold PySem.passOn
        refine wpAny_bind (wpAny_field he hd h1 ?_)
        rw [if_neg (show ¬ ((Value.ref T == Value.none) = true) from by simp)]
        have fin : wpAny (model X.prog X.w) X.A (setFlight (.ref a) X.env.frame) (fun _ s4 => wpAny (model X.prog X.w) X.A (throw (.ref a) : Sem Flow) (SP X pins D) X.xe s4) X.xe { s' with heap := h3 } := by
          rw [hf]
          exact HandSPX.setFlight_upZ fl3 fun h4 hh4 up4 => wpAny_throw (tk _ _ ⟨a, B, sI, pins, σ', H', cls, d, rfl, J, nb, (up.trans up3).trans up4, .inr (.inr (by rw [hs]; exact hh4)), na, os, ag, w⟩)
        first
          | exact wpAny_bind (wpAny_pure (wpAny_bind fin))
          | exact wpAny_bind fin
      | stop =>
        rintro ⟨b, hb1, _⟩
        rw [exm_none] at hb1
        cases hb1
      | one hc hsu r ih =>
        rintro ⟨b, hb1, hyes, hno⟩
        refine wpAny_handleBy_cons (codeAny_handlers_test ?_) (by intro q; cases q)
        refine test hc ((PySem.W.exm_one (M := model X.prog X.w) J3.kIn LT hb1).here ?_)
        cases b with
        | false => exact ih (hno rfl)
        | true =>
          refine codeAny_handlers_suite (HandSPX.lands_againZ fl3 fun h4 fl4 up4 => ?_)
          have J4 : Inv X pins σ' H' { s' with heap := h4 } := J.landed nb fl4.1 ((up.trans up3).trans up4) os ag
          obtain ⟨oe4, vs4, he4, hz4, hd4⟩ := fl4.there
          exact wpAny_mono ((hsu a oe4 cls d (X.pn ++ pins) hz4 ⟨_, hd4⟩).run [] _ _ H' _ (J4.suite he4 hd4 na nL nF) (hyes rfl a na J4.len)) (fun f s6 z => ends z) (fun _ _ z => False.elim z)
      | @as x n c i ts b₀ suite np pos' hds2 l2 hc hi hln hsu r ih =>
        rintro ⟨b, hb1, hyes, hno⟩
        refine wpAny_handleBy_cons (codeAny_handlers_test ?_) (by intro q; cases q)
        refine test hc ((PySem.W.exm_one (M := model X.prog X.w) J3.kIn LT hb1).here ?_)
        cases b with
        | false => exact ih (hno rfl)
        | true =>
          refine codeAny_handlers_suite_as (HandSPX.lands_againZ fl3 fun h4 fl4 up4 => ?_)
          have J4 : Inv X pins σ' H' { s' with heap := h4 } := J.landed nb fl4.1 ((up.trans up3).trans up4) os ag
          obtain ⟨oe4, vs4, he4, hz4, hd4⟩ := fl4.there
          refine store_ok (X := X.suite a ((a, oe4) :: (X.pn ++ pins))) (v := .ref a) (J4.suite he4 hd4 na nL nF) hN hi (.inl hln) rfl (fun s5 S5 => ?_) (.inr hln)
          refine wpAny_mono ((hsu a oe4 cls d (X.pn ++ pins) hz4 ⟨_, hd4⟩).run [] s5 _ H' _ S5 (hyes rfl a na J4.len)) (fun f s6 hsp => ?_) (fun _ _ z => False.elim z)
          have end_ : ∀ {σ6 : L2.St} {H6 : Hp} {Q : Shared → Prop}, Inv (X.suite a ((a, oe4) :: (X.pn ++ pins))) [] σ6 H6 s6 → (∀ s7, Inv X pins (σ6.set i none) H6 s7 → Q s7) →
              wpAny (model X.prog X.w) X.A (do bindName X.env n .none; unbindBehindTheSuite X.env n pos') (fun _ s7 => Q s7) X.xe s6 := fun {σ6 H6 Q} S6 hq => gone_ok (S6.unsuite ok) hN hi hln hq
          match f, hsp with
          | .next, ⟨σ6, H6, S6, q6⟩ => exact end_ S6 fun s7 J7 => ⟨_, _, J7, q6⟩
          | .brk, ⟨σ6, H6, S6, q6⟩ => exact end_ S6 fun s7 J7 => ⟨_, _, J7, q6⟩
          | .cont, ⟨σ6, H6, S6, q6⟩ => exact end_ S6 fun s7 J7 => ⟨_, _, J7, q6⟩
          | .ret u, ⟨v6, σ6, H6, S6, r6, q6⟩ => exact end_ S6 fun s7 J7 => ⟨_, _, _, J7, r6, q6⟩
      | @keep x n c i ts b₀ suite np pos' hds2 l2 hc hi hln hsu r ih =>
        rintro ⟨b, hb1, hyes, hno⟩
        refine wpAny_handleBy_cons (codeAny_handlers_test ?_) (by intro q; cases q)
        refine test hc ((PySem.W.exm_one (M := model X.prog X.w) J3.kIn LT hb1).here ?_)
        cases b with
        | false => exact ih (hno rfl)
        | true =>
          refine codeAny_handlers_suite_as (HandSPX.lands_againZ fl3 fun h4 fl4 up4 => ?_)
          have J4 : Inv X pins σ' H' { s' with heap := h4 } := J.landed nb fl4.1 ((up.trans up3).trans up4) os ag
          obtain ⟨oe4, vs4, he4, hz4, hd4⟩ := fl4.there
          refine store_ok (X := X.suite a ((a, oe4) :: (X.pn ++ pins))) (v := .ref a) (J4.suite he4 hd4 na nL nF) hN hi (.inl hln) rfl (fun s5 S5 => ?_) (.inr hln)
          refine wpAny_mono ((hsu a oe4 cls d (X.pn ++ pins) hz4 ⟨_, hd4⟩).run [] s5 _ H' _ S5 (hyes rfl a na J4.len)) (fun f s6 hsp => ?_) (fun _ _ z => False.elim z)
          have endK : ∀ {σ6 : L2.St} {H6 : Hp} {Q : Shared → Prop}, Inv (X.suite a ((a, oe4) :: (X.pn ++ pins))) [] σ6 H6 s6 → (H6 a = none → ∀ s7, Inv X pins (σ6.set i none) (upd H6 a (ExV cls d a)) s7 → Q s7) →
              wpAny (model X.prog X.w) X.A (do bindName X.env n .none; unbindBehindTheSuite X.env n pos') (fun _ s7 => Q s7) X.xe s6 := fun {σ6 H6 Q} S6 hq => by
            obtain ⟨e6, n6, _⟩ := S6.pin (a, oe4) (List.mem_append.mpr (.inl List.mem_cons_self))
            exact gone_ok ((S6.unsuite ok).track e6 hz4 hd4 n6 n0 nL npa) hN hi hln (hq n6)
          have end_ : ∀ {σ6 : L2.St} {H6 : Hp} {Q : Shared → Prop}, Inv (X.suite a ((a, oe4) :: (X.pn ++ pins))) [] σ6 H6 s6 → (∀ s7, Inv X pins (σ6.set i none) H6 s7 → Q s7) →
              wpAny (model X.prog X.w) X.A (do bindName X.env n .none; unbindBehindTheSuite X.env n pos') (fun _ s7 => Q s7) X.xe s6 := fun {σ6 H6 Q} S6 hq => gone_ok (S6.unsuite ok) hN hi hln hq
          match f, hsp with
          | .next, ⟨σ6, H6, S6, q6⟩ => exact endK S6 fun n6 s7 J7 => ⟨_, _, J7, q6 n6⟩
          | .brk, ⟨σ6, H6, S6, q6⟩ => exact end_ S6 fun s7 J7 => ⟨_, _, J7, q6⟩
          | .cont, ⟨σ6, H6, S6, q6⟩ => exact end_ S6 fun s7 J7 => ⟨_, _, J7, q6⟩
          | .ret u, ⟨v6, σ6, H6, S6, r6, q6⟩ => exact end_ S6 fun s7 J7 => ⟨_, _, _, J7, r6, q6⟩
    exact go hh w
  · match f, hsp with
    | .next, ⟨σ', H', J', q⟩ => exact wpAny_execs_nil ⟨σ', H', J'.ofTry ok, q⟩
    | .brk, ⟨σ', H', J', q⟩ => exact ⟨σ', H', J'.ofTry ok, q⟩
    | .cont, ⟨σ', H', J', q⟩ => exact ⟨σ', H', J'.ofTry ok, q⟩
    | .ret u, ⟨v, σ', H', J', r, q⟩ => exact ⟨v, σ', H', J'.ofTry ok, r, q⟩
end
/-! reading what was kept -/
/-- what an own exception class must have -/
structure ExvC (K : PySem.W.Frag) (C : Addr) : Prop where
  cl : (PySem.W.clsIn K C).isSome = true
  ga : PySem.W.findIn K (.ref C) "__getattribute__" = some (some (.builtin "BaseException.__getattribute__"))
  gg : PySem.W.findIn K (.ref C) "__getattr__" = some none
  sb : PySem.W.subIn K (.ref C) (.type "BaseException") = some true
  hd : PySem.W.hasDictIn K C = true
  ca : PySem.W.findIn K (.ref C) "__class__" = some (some (.builtin "object.__class__"))
  sn : PySem.W.specialIn K (.builtin "object.__class__") "__get__" = some (some (.builtin "getset_descriptor.__get__"))
  tk : PySem.W.takesIn K (.builtin "object.__class__") = some true
  ob : PySem.W.mroIn K C (.type "object") = some true
def exvB (x : Str) : ExB := fun K => (PySem.W.clsIn K (He.ga K x)).isSome && (decide (PySem.W.findIn K (.ref (He.ga K x)) "__getattribute__" = some (some (.builtin "BaseException.__getattribute__"))) && (decide (PySem.W.findIn K (.ref (He.ga K x)) "__getattr__" = some none) &&
  (decide (PySem.W.subIn K (.ref (He.ga K x)) (.type "BaseException") = some true) && (PySem.W.hasDictIn K (He.ga K x) && (decide (PySem.W.findIn K (.ref (He.ga K x)) "__class__" = some (some (.builtin "object.__class__"))) &&
  (decide (PySem.W.specialIn K (.builtin "object.__class__") "__get__" = some (some (.builtin "getset_descriptor.__get__"))) && (decide (PySem.W.takesIn K (.builtin "object.__class__") = some true) && decide (PySem.W.mroIn K (He.ga K x) (.type "object") = some true))))))))
theorem exvB_ok {K : PySem.W.Frag} {x : Str} (h : exvB x K = true) : ExvC K (He.ga K x) := by
  unfold exvB at h
  simp only [Bool.and_eq_true, decide_eq_true_eq] at h
  obtain ⟨h1, h2, h3, h4, h5, h6, h7, h8, h9⟩ := h
  exact ⟨h1, h2, h3, h4, h5, h6, h7, h8, h9⟩
/-- the class C has nothing of the name f: the instance's own is read -/
def noFB (x f : Str) : ExB := fun K => decide (PySem.W.findIn K (.ref (He.ga K x)) f = some none)
theorem noFB_ok {K : PySem.W.Frag} {x f : Str} (h : noFB x f K = true) : PySem.W.findIn K (.ref (He.ga K x)) f = some none := of_decide_eq_true h
/-- caught: an exception of the class C with the fields fs -/
def Caught (K : PySem.W.Frag) (H : Hp) (C : Addr) (fs : List (Str × V)) (v : V) : Prop := ∃ a dd, v = .ref a ∧ H a = some (ExV (.ref C) (some dd) a) ∧ H dd = some (.xd fs) ∧ ExvC K C
/-- isinstance(caught, c) -/
def rIsV (K : PySem.W.Frag) : List V → Hp → VK → Prop := fun xs H Q => ∃ x c C fs cv b, xs = [x, c] ∧ Caught K H C fs x ∧ ClsV c cv ∧ PySem.W.kitOne K (.ref C) cv = some b ∧ Q (.bl b) H
/-- caught.f -/
def tXfV (K : PySem.W.Frag) (f : Str) (te : TE) : TE := fun σ H Q => te σ H fun x H1 => ∃ C fs v, Caught K H1 C fs x ∧ PySem.W.findIn K (.ref C) f = some none ∧ fs.lookup f = some v ∧ Q v H1
section
variable {X : Cx}
theorem caught_at {pins : List (Addr × Obj)} {σ : L2.St} {H : Hp} {s : Shared} (I : Inv X pins σ H s) {C : Addr} {fs : List (Str × V)} {x : V} {u : Value} (h : Caught X.K H C fs x) (r : RelV x u) :
    ∃ (a dd : Addr) (oe od : Obj) (mA : Str → Option Value), u = .ref a ∧ PySem.W.InstAt s.heap a oe C (some od) ∧ H dd = some (.xd fs) ∧ (∀ n, PySem.W.lookIn n od = some (mA n)) ∧ ∀ f, RelO (fs.lookup f) (mA f) := by
  obtain ⟨a, dd, rfl, ha, hd, C⟩ := h
  cases (show u = Value.ref a from r)
  obtain ⟨⟨oe, vs, e, z, dt⟩, _⟩ := (show ObjOk X.prog X.w H s.heap a _ from I.hok a _ ha)
  obtain ⟨mA, hns, hr⟩ := (show ObjOk X.prog X.w H s.heap dd (.xd fs) from I.hok dd _ hd)
  obtain ⟨od, ho, hl⟩ := lookIn_ns hns
  exact ⟨a, dd, oe, od, mA, rfl, ⟨e, z.1, by unfold PySem.W.notCls; rw [dt] <;> rfl, by rw [z.2]; exact ho⟩, hd, hl, hr⟩
theorem call_isV : CallR X (.builtin "isinstance") (rIsV X.K) := by
  intro pins s σ H xs us Q I r h
  obtain ⟨x, c, C, fs, cv, b, rfl, hc, k, e, q⟩ := h
  obtain ⟨u1, u2, rfl, r1, r2⟩ := vals2 r
  have e2 := k.eq r2
  subst e2
  have F : ExvC X.K C := by
    obtain ⟨_, _, _, _, _, F⟩ := hc
    exact F
  obtain ⟨a, dd, oe, od, mA, rfl, J, _⟩ := caught_at I hc r1
  exact PySem.W.kia_one (PySem.W.kitx_exc F.cl F.ga F.gg F.sb F.ca F.sn F.tk F.ob) I.kIn J e (fun z => nomatch z) fun tk => ⟨.bl b, H, I.tok tk, rfl, q⟩
theorem pe_xfV {e : Expr} {te : TE} {pos : Pos} {n : Str} (he : PE X e te) (hb : attributeBase e n X.env (eval e X.env) = eval e X.env := by rfl) : PE X (.Attribute e n pos) (tXfV X.K n te) := by
  refine ⟨fun pins s σ H Q I h => ?_⟩
  refine attr_of hb (thn (he.run pins s σ H _ I h) fun u s1 hh => ?_)
  obtain ⟨x, H1, I1, rx, C, fs, v, hc, hno, l, q⟩ := hh
  have F : ExvC X.K C := by
    obtain ⟨_, _, _, _, _, F⟩ := hc
    exact F
  obtain ⟨a, dd, oe, od, mA, rfl, J, ed, hl, hr⟩ := caught_at I1 hc rx
  obtain ⟨u, hu, ru⟩ := RelO.some_of (v := v) (o := mA n) (by rw [← l]; exact hr n)
  exact HandSPX.exc_get I1.kIn J F.ga F.gg F.sb (PySem.W.findObj_own F.hd hno rfl (by rw [hl, hu])) (handed_of ru) ⟨v, H1, I1.tok _, ru, q⟩
theorem pe_xfVK {K : PySem.W.Frag} (e0 : X.K = K) {e : Expr} {te : TE} {pos : Pos} {n : Str} (he : PE X e te) (hb : attributeBase e n X.env (eval e X.env) = eval e X.env := by rfl) : PE X (.Attribute e n pos) (tXfV K n te) := by
  subst e0
  exact pe_xfV he hb
theorem call_isVK {K : PySem.W.Frag} (e : X.K = K) : CallR X (.builtin "isinstance") (rIsV K) := by
  subst e
  exact call_isV
end
/-! stepping -/
section
variable {K : PySem.W.Frag} {H H' : Hp} {σ : L2.St} {Q : VK} {C a dd : Addr} {fs : List (Str × V)} {x v : V} {te : TE}
theorem Caught.kp (k : Kp H H') (h : Caught K H C fs x) : Caught K H' C fs x := let ⟨a, dd, e, h1, h2, F⟩ := h; ⟨a, dd, e, k _ _ h1, k _ _ h2, F⟩
theorem Caught.new (F : ExvC K C) (ha : H a = none) (hd : H dd = some (.xd fs)) : Caught K (upd H a (ExV (.ref C) (some dd) a)) C fs (.ref a) :=
  ⟨a, dd, rfl, upd_same, by rw [upd_ne (ne_of_none hd ha)]; exact hd, F⟩
theorem isV {c : V} {cv : Value} {b : Bool} (h : Caught K H C fs x) (k : ClsV c cv) (e : PySem.W.kitOne K (.ref C) cv = some b) (q : Q (.bl b) H) : rIsV K [x, c] H Q := ⟨x, c, C, fs, cv, b, rfl, h, k, e, q⟩
theorem isV_cl {D : Addr} {b : Bool} (h : Caught K H C fs x) (e : PySem.W.kitOne K (.ref C) (.ref D) = some b) (q : Q (.bl b) H) : rIsV K [x, .ref D] H Q := isV h (.own D) e q
end
/-! max of two ints -/
def rMax2 : List V → Hp → VK → Prop := fun xs H Q => ∃ i j : Int, xs = [.int i, .int j] ∧ Q (.int (if j > i then j else i)) H
theorem call_max2G {X : Cx} (hc : X.calm = true) : CallR X (.builtin "max") rMax2 := call_max2 hc
theorem max_ii {H : Hp} {Q : VK} {i j k : Int} (e : max i j = k) (q : Q (.int k) H) : rMax2 [.int i, .int j] H Q := ⟨i, j, rfl, by
  rw [show (if j > i then j else i) = k by
    rw [← e]
    split <;> omega]
  exact q⟩
end G
namespace G
open PySem PySem.Spec PySem.Calls PyProof.Rows L2
/-! ### v(..), v a name that holds an object whose class has __call__ -/
section
variable {X : Cx} {CX : CXT} {k : Nat} {g : Addr} {fd : FuncData} {ps : List Str} {sp : Sp} {dvs : List V} {ds : List Value} {E : XK} {n : Str} {p pos : Pos} {e : Expr} {es : List Expr} {ta : TE} {t : TA}
def CalV (K : PySem.W.Frag) (g : Addr) (x : V) (R : (Hp → Prop) → Prop) : Prop := ∃ b D, x = .ref b ∧ OwnM K D "__call__" g ∧ PySem.W.fnIn K g = true ∧ R fun H2 => ∃ dy gs, H2 b = some (.ins D dy gs)
def tCallV (K : PySem.W.Frag) (g : Addr) (sp : Sp) (dvs : List V) (E : XK) (ta : TE) (t : TA) : TE := fun σ H Q => ta σ H fun x H1 => CalV K g x fun st => t σ H1 fun vs H2 => st H2 ∧ sp (x :: (vs ++ dvs)) H2 Q E
theorem pe_callV (he : PE X (.Name n p) ta) (F : FnG X.prog X.w X.K X.mg X.base CX k g fd ps sp) (hr : RoomG k X.A) (hb : Binds X.K fd ps ds) (hd : Vals dvs ds) (hx : Passes CX X E) (ha : PA X (e :: es) t)
    (hst : starEach (e :: es) X.env = (false, eval e X.env) :: starEach es X.env := by rfl) (hpl : (backTo pos (starEach es X.env)).any (·.1) = false := by rfl) :
    PE X (.Call (.Name n p) (e :: es) [] pos) (tCallV X.K g sp dvs E ta t) := by
  refine ⟨fun pins s σ H Q I h => ?_⟩
  refine wpAny_Call_Name_kw (thn (he.run pins s σ H _ I h) fun u s2 ⟨x, H1, J2, rx, b, D, ex, ow, hfn, q⟩ => ?_)
  subst ex
  cases (show u = Value.ref b from rx)
  have ar := thn (ha.run pos pins s2 σ H1 _ J2 q) (Q' := fun us s3 => Stand X.K b D s3.heap ∧ wpAny (model X.prog X.w) X.A (call (.ref b) us) (EP X pins σ Q) X.xe s3) fun us s3 ⟨vs, H2, J3, r, ⟨dy, gs, eb⟩, q2⟩ => by
    obtain ⟨oy, oe, hd', I3⟩ := inst_of J3 eb
    refine ⟨⟨J3.kIn, oy, oe, hd', I3⟩, wpAny_call (PySem.W.kco_code J3.kIn I3 hd' ow.at_ ow.fn hfn ?_)⟩
    have rv : Vals (V.ref b :: vs) (Value.ref b :: us) := .cons rfl r
    refine codeAny_mono (run_at (args := ⟨.ref b :: us, []⟩) (ws := .ref b :: us ++ ds) (vs := .ref b :: vs ++ dvs) F hr J3.env0 hx J3 (hb _ _ J3.kIn (len_of F hd rv q2)) (rv.append hd) q2) fun r s' hq => ?_
    · match r, hq with
      | .error _, hq => exact hq
      | .ok (.ret _), hq => exact hq
  show wpAny _ _ (callWith pos (.ref b) [] (backTo pos (starEach (e :: es) X.env)) []) _ _ _
  rw [hst] at ar ⊢
  exact callWithB (K := X.K) (C := D) (by show ((false || (backTo pos (starEach es X.env)).any (·.1)) || false) = false; rw [hpl]; rfl) (evalArgs_plain ar)
/-- in the body of a try: what it raises is told with the names' values of then -/
def tCallVW (K : PySem.W.Frag) (g : Addr) (sp : Sp) (dvs : List V) (W : WX) (ta : TE) (t : TA) : TE := fun σ H Q => ta σ H fun x H1 => CalV K g x fun st => t σ H1 fun vs H2 => st H2 ∧ sp (x :: (vs ++ dvs)) H2 Q fun cls d H' => W cls d σ H'
theorem pe_callVW {W : WX} (he : PE X (.Name n p) ta) (F : FnG X.prog X.w X.K X.mg X.base (L2.CX X.prog X.w) k g fd ps sp) (hr : RoomG k X.A) (hb : Binds X.K fd ps ds) (hd : Vals dvs ds) (tk : Takes X W) (ha : PA X (e :: es) t)
    (hst : starEach (e :: es) X.env = (false, eval e X.env) :: starEach es X.env := by rfl) (hpl : (backTo pos (starEach es X.env)).any (·.1) = false := by rfl) :
    PE X (.Call (.Name n p) (e :: es) [] pos) (tCallVW X.K g sp dvs W ta t) := by
  refine ⟨fun pins s σ H Q I h => ?_⟩
  refine wpAny_Call_Name_kw (thn (he.run pins s σ H _ I h) fun u s2 ⟨x, H1, J2, rx, b, D, ex, ow, hfn, q⟩ => ?_)
  subst ex
  cases (show u = Value.ref b from rx)
  have ar := thn (ha.run pos pins s2 σ H1 _ J2 q) (Q' := fun us s3 => Stand X.K b D s3.heap ∧ wpAny (model X.prog X.w) X.A (call (.ref b) us) (EP X pins σ Q) X.xe s3) fun us s3 ⟨vs, H2, J3, r, ⟨dy, gs, eb⟩, q2⟩ => by
    obtain ⟨oy, oe, hd', I3⟩ := inst_of J3 eb
    refine ⟨⟨J3.kIn, oy, oe, hd', I3⟩, wpAny_call (PySem.W.kco_code J3.kIn I3 hd' ow.at_ ow.fn hfn ?_)⟩
    have rv : Vals (V.ref b :: vs) (Value.ref b :: us) := .cons rfl r
    refine codeAny_mono (F.run hr J3.env0 (hb _ _ J3.kIn (len_of F hd rv q2)) (rv.append hd) q2) fun r s' hq => ?_
    · match r, hq with
      | .error e, hq => exact passS tk pins H2 s3 e s' J3 hq
      | .ok (.ret u), hq => exact J3.after hq
      | .ok .next, hq => exact hq
      | .ok .brk, hq => exact hq
      | .ok .cont, hq => exact hq
  show wpAny _ _ (callWith pos (.ref b) [] (backTo pos (starEach (e :: es) X.env)) []) _ _ _
  rw [hst] at ar ⊢
  exact callWithB (K := X.K) (C := D) (by show ((false || (backTo pos (starEach es X.env)).any (·.1)) || false) = false; rw [hpl]; rfl) (evalArgs_plain ar)
theorem st_callVW {K : PySem.W.Frag} {σ : L2.St} {H : Hp} {Q : VK} {W : WX} (q : ta σ H fun x H1 => CalV K g x fun st => t σ H1 fun vs H2 => st H2 ∧ sp (x :: (vs ++ dvs)) H2 Q fun cls d H' => W cls d σ H') : tCallVW K g sp dvs W ta t σ H Q := q
theorem pe_callVWK {K : PySem.W.Frag} {W : WX} (e0 : X.K = K) (he : PE X (.Name n p) ta) (F : FnG X.prog X.w K X.mg X.base (L2.CX X.prog X.w) k g fd ps sp) (hr : RoomG k X.A) (hb : Binds K fd ps ds) (hd : Vals dvs ds) (tk : Takes X W) (ha : PA X (e :: es) t)
    (hst : starEach (e :: es) X.env = (false, eval e X.env) :: starEach es X.env := by rfl) (hpl : (backTo pos (starEach es X.env)).any (·.1) = false := by rfl) :
    PE X (.Call (.Name n p) (e :: es) [] pos) (tCallVW K g sp dvs W ta t) := by
  subst e0
  exact pe_callVW he F hr hb hd tk ha hst hpl
theorem pe_callVK {K : PySem.W.Frag} (e0 : X.K = K) (he : PE X (.Name n p) ta) (F : FnG X.prog X.w K X.mg X.base CX k g fd ps sp) (hr : RoomG k X.A) (hb : Binds K fd ps ds) (hd : Vals dvs ds) (hx : Passes CX X E) (ha : PA X (e :: es) t)
    (hst : starEach (e :: es) X.env = (false, eval e X.env) :: starEach es X.env := by rfl) (hpl : (backTo pos (starEach es X.env)).any (·.1) = false := by rfl) :
    PE X (.Call (.Name n p) (e :: es) [] pos) (tCallV K g sp dvs E ta t) := by
  subst e0
  exact pe_callV he F hr hb hd hx ha hst hpl
end
section
variable {K : PySem.W.Frag} {H : Hp} {σ : L2.St} {Q : VK} {g b D dx : Addr} {fs : List (Str × V)} {R : (Hp → Prop) → Prop} {sp : Sp} {dvs : List V} {E : XK} {ta : TE} {t : TA}
theorem st_callV (q : ta σ H fun x H1 => CalV K g x fun st => t σ H1 fun vs H2 => st H2 ∧ sp (x :: (vs ++ dvs)) H2 Q E) : tCallV K g sp dvs E ta t σ H Q := q
theorem st_calV (ow : OwnM K D "__call__" g) (hf : PySem.W.fnIn K g = true) (q : R fun H2 => ∃ dy gs, H2 b = some (.ins D dy gs)) : CalV K g (.ref b) R := ⟨b, D, rfl, ow, hf, q⟩
end
end G
namespace G
open PySem PySem.Spec PySem.Calls PyProof.Rows L2 StX
/-! ### defs with a star parameter: f(a, .., *v) -/
/-- a def's promise by its positional arguments -/
def FnGR (P : Program) (w : World) (K : PySem.W.Frag) (mg : Str → Option Value) (base : Heap) (CX : CXT) (k : Nat) (f : Addr) (sp : Sp) : Prop :=
  ∀ (A : Around) (outer : List Env) (s : Shared) (H : Hp) (us : List Value) (vs : List V) (Q : VK) (E : XK), RoomG k A → Env0 P w K mg base A outer s H → Vals vs us → sp vs H Q E →
    codeAny (model P w) A (.call (.ref f) ⟨us, []⟩) (CR CX outer P w H s Q E) s
/-- what a caller with a star parameter says: n arguments ahead, the others in a new tuple -/
def starSp (n : Nat) (sp : Sp) : Sp := fun vs H Q E => ∃ ws rest, vs = ws ++ rest ∧ ws.length = n ∧ rest.length ≤ sizeLine ∧ ∀ p, H p = Option.none → sp (ws ++ [V.ref p]) (upd H p (.tup rest)) Q E
section
variable {CX : CXT} {P : Program} {w : World} {K : PySem.W.Frag} {mg : Str → Option Value} {base : Heap} {j k : Nat} {f : Addr} {fd : FuncData} {x qual : Str} {st : Stmt} {dvs : List V} {kws : List (Str × V)} {N ps : List Str} {sp : Sp}
theorem FnGR.mono (F : FnGR P w K mg base CX j f sp) (h : j ≤ k) : FnGR P w K mg base CX k f sp := fun A outer s H us vs Q E hr => F A outer s H us vs Q E (hr.mono h)
theorem fn_starG {pv : Str} (F : L2.FunD K x qual (defArgs st) (defBody st) (defScope st) dvs kws f fd) (S : FnScope N (ps ++ [pv]) (defScope st)) (hCX : CXUp CX)
    (hb : ∀ us rest : List Value, us.length = ps.length → bindArgs fd ⟨us ++ rest, []⟩ = (newTuple rest >>= fun t => pure (ps.zip us ++ [(pv, t)])))
    (hbody : ∀ (cdv : Value) (A : Around) (outer : List Env) (s : Shared) (H : Hp) (vs : List V) (Q : VK) (E : XK), RoomG k (A.deeper (envOfC qual (defScope st) s.heap.objs.size f cdv)) → sp vs H Q E →
      ∃ t, PSs (cxOf CX P w K mg base N qual (defScope st) f cdv A outer s H E) (defBody st) t ∧ t { nx := fun _ H' => Q .non H', rt := Q } (start N vs) H) :
    FnGR P w K mg base CX (k + 1) f (starSp ps.length sp) := by
  obtain ⟨oc, od, dV, kV, doc, pm, an, cdv, ct, osl, rfl, lk, hcd, _, _⟩ := F.ex
  intro A outer s H us vs Q E hr e0 r hsp
  obtain ⟨ws, rest, ev, hl, hz, hq⟩ := hsp
  subst ev
  obtain ⟨u1, u2, eu, r1, r2⟩ := vals_split r
  subst eu
  have hn : H s.heap.objs.size = Option.none := e0.hok.fresh (Nat.le_refl _)
  have hl1 : u1.length = ps.length := by rw [← r1.length]; exact hl
  have hl2 : u2.length ≤ sizeLine := by rw [← r2.length]; exact hz
  refine run_bnd lk hcd S hr.rm e0 (G := fun xs H2 => ∃ p, H p = Option.none ∧ xs = ws ++ [V.ref p] ∧ H2 = upd H p (.tup rest)) (fun A' Ex Q' h => ?_) fun s2 H2 xs ⟨p, hp, ex, eH⟩ hr' => ?_
  · rw [hb u1 u2 hl1]
    refine wpAny_bind (wpAny_newTuple (wpAny_pure ?_) hl2)
    have new : ObjOk P w (upd H s.heap.objs.size (.tup rest)) (s.heap.push ({ cls := .type "tuple", data := .seq u2.toArray } : Obj)) s.heap.objs.size (.tup rest) := ⟨hz, u2, r2, ⟨_, Heap.get?_push_size _ rfl, rfl, _, rfl⟩⟩
    have un := un_laid (fs := frs outer) (s := s) (o := ({ cls := .type "tuple", data := .seq u2.toArray } : Obj)) (u := .tup rest) hn
    have z := h _ _ (ws ++ [V.ref s.heap.objs.size]) (u1 ++ [Value.ref s.heap.objs.size]) (env0_laid e0 new) un rfl (fun e s' => hCX outer s H _ _ E e s' un (fun b o q => Heap.get?_push_of_some _ q) rfl) (r1.append (.cons rfl .nil))
      (by rw [List.length_append, List.length_append, hl] <;> rfl) ⟨_, hn, rfl, rfl⟩
    rw [List.zip_append hl1.symm] at z
    exact z
  · subst ex eH
    exact hbody cdv A outer s2 _ _ Q E (hr.deeper _) (hq p hp)
theorem fn_starG0 {pv : Str} (F : L2.FunD K x qual (defArgs st) (defBody st) (defScope st) dvs kws f fd) (S : FnScope N (ps ++ [pv]) (defScope st))
    (hb : ∀ us rest : List Value, us.length = ps.length → bindArgs fd ⟨us ++ rest, []⟩ = (newTuple rest >>= fun t => pure (ps.zip us ++ [(pv, t)])))
    (hbody : ∀ (cdv : Value) (A : Around) (outer : List Env) (s : Shared) (H : Hp) (vs : List V) (Q : VK) (E : XK), RoomG k (A.deeper (envOfC qual (defScope st) s.heap.objs.size f cdv)) → sp vs H Q E →
      ∃ t, PSs (cxOf CX0 P w K mg base N qual (defScope st) f cdv A outer s H E).nox (defBody st) t ∧ t { nx := fun _ H' => Q .non H', rt := Q } (start N vs) H) :
    FnGR P w K mg base CX0 (k + 1) f (starSp ps.length sp) :=
  fn_starG F S cxUp_none hb fun cdv A outer s H vs Q E hr hsp => let ⟨t, h, q⟩ := hbody cdv A outer s H vs Q E hr hsp; ⟨t, h.nox, q⟩
end
section
variable {X : Cx} {CX : CXT} {k i : Nat} {f C : Addr} {sp : Sp} {E : XK} {x : Str} {e : Expr} {es : List Expr} {te : TE} {t : TA} {p pos p' : Pos} {pins : List (Addr × Obj)} {σ : L2.St} {H : Hp} {s : Shared} {Q : VK} {us : List Value} {vs : List V}
theorem run_makeGR (M : Mk X.K C f) (F : FnGR X.prog X.w X.K X.mg X.base CX k f sp) (hr : RoomG (k + 1) X.A) (hx : Passes CX X E) (I : Inv X pins σ H s) (r : Vals vs us) (h : MakeK C sp [] E vs H Q) :
    wpAny (model X.prog X.w) X.A (call (.ref C) us) (EP X pins σ Q) X.xe s := by
  have hq := h (s.heap.objs.size + 1) s.heap.objs.size (I.hok.fresh (Nat.le_add_right _ 1)) (I.hok.fresh (Nat.le_refl _)) (Nat.ne_of_lt (Nat.lt_add_one _))
  rw [List.append_nil] at hq
  have J := Inv.made (C := C) I
  have rv : Vals (V.ref (s.heap.objs.size + 1) :: vs) (Value.ref (s.heap.objs.size + 1) :: us) := .cons rfl r
  have run := codeAny_mono (F _ X.stack _ _ (Value.ref (s.heap.objs.size + 1) :: us) _ _ E (hr.make C us []) (J.env0.make C us []) rv hq) fun _ _ hq => er_of hx J hq
  refine wpAny_call (make_map (f := f) I.kIn M.makes M.init (beq_iff_eq.mp M.fn) (codeAny_mono run fun r s' z => ?_))
  match r, z with
  | .error _, z => exact z
  | .ok (.ret u), ⟨v, H', J', rn, ev, q⟩ =>
    subst ev
    exact ⟨rn, V.ref (s.heap.objs.size + 1), H', J', rfl, q⟩
/-- C(e, ..) -/
theorem pe_makeGR (M : Mk X.K C f) (F : FnGR X.prog X.w X.K X.mg X.base CX k f sp) (hr : RoomG (k + 1) X.A) (hg : Gl X x) (hm : X.mg x = some (.ref C)) (hx : Passes CX X E) (ha : PA X (e :: es) t)
    (hdb : (x == ("__debug__" : Str)) = false := by decide) (he : starEach (e :: es) X.env = (false, eval e X.env) :: starEach es X.env := by rfl) (hpl : (backTo pos (starEach es X.env)).any (·.1) = false := by rfl) : PE X (.Call (.Name x p) (e :: es) [] pos) (tMake C sp [] E t) :=
  ⟨fun pins s σ H _ I h => wpAny_Call_Name_kw (ld_glob I hg hm (PySem.W.callWith_K (h₀ := X.base) I.ok.mod.kin M.kp (thn (ha.run pos pins s σ H _ I h) fun _ _ ⟨_, _, J, r, q⟩ => ⟨J.kIn, run_makeGR M F hr hx J r q⟩) he hpl) hdb)⟩
/-- C() -/
theorem pe_makeGR0 (M : Mk X.K C f) (F : FnGR X.prog X.w X.K X.mg X.base CX k f sp) (hr : RoomG (k + 1) X.A) (hg : Gl X x) (hm : X.mg x = some (.ref C)) (hx : Passes CX X E) (hdb : (x == ("__debug__" : Str)) = false := by decide) : PE X (.Call (.Name x p) [] [] pos) (tMake C sp [] E tNil) :=
  ⟨fun _ _ _ _ _ I h => wpAny_Call_Name_kw (ld_glob I hg hm (PySem.W.callWith_K0 I.kIn M.kp (run_makeGR (us := []) M F hr hx I .nil h)) hdb)⟩
/-- C(*y) -/
def tMakeS (K : PySem.W.Frag) (C : Addr) (sp : Sp) (E : XK) (te : TE) : TE := fun σ H Q => te σ H fun y H1 => ∃ a xs, y = V.ref a ∧ (SqT K H1 a xs ∨ SqL K H1 a xs) ∧ MakeK C sp [] E xs H1 Q
theorem pe_makeGS1 (M : Mk X.K C f) (F : FnGR X.prog X.w X.K X.mg X.base CX k f sp) (hr : RoomG (k + 1) X.A) (hg : Gl X x) (hm : X.mg x = some (.ref C)) (hx : Passes CX X E) (he : PE X e te) (hd : (x == ("__debug__" : Str)) = false := by decide)
    (hst : starEach [.Starred e p'] X.env = [(true, eval e X.env)] := by rfl) : PE X (.Call (.Name x p) [.Starred e p'] [] pos) (tMakeS X.K C sp E te) := by
  refine ⟨fun pins s σ H Q I h => ?_⟩
  refine wpAny_Call_Name_kw (ld_glob I hg hm ?_ hd)
  refine PySem.W.callWith_S (h₀ := X.base) I.ok.mod.kin M.kp (thn (he.run pins s σ H _ I h) fun v s1 ⟨y, H1, I1, ry, a, xs, ey, hxs, q⟩ => ?_) hst
  subst ey
  obtain rfl : v = Value.ref a := ry
  exact star_any I1 hxs fun us s2 I2 rv => ⟨I2.kIn, run_makeGR M F hr hx I2 rv q⟩
/-- cls(*y), cls the name of a class method's first parameter -/
def tMakeLS (i : Nat) (K : PySem.W.Frag) (C : Addr) (sp : Sp) (E : XK) (te : TE) : TE := fun σ H Q => σ[i]? = some (some (.ref C)) ∧ tMakeS K C sp E te σ H Q
theorem pe_makeLS1 (M : Mk X.K C f) (F : FnGR X.prog X.w X.K X.mg X.base CX k f sp) (hr : RoomG (k + 1) X.A) (hN : X.N[i]? = some x) (hv : Vis X.env.scope x) (hx : Passes CX X E) (he : PE X e te) (hdb : (x == ("__debug__" : Str)) = false := by decide) (hcd : (x == ("__classdict__" : Str)) = false := by decide)
    (hst : starEach [.Starred e p'] X.env = [(true, eval e X.env)] := by rfl) : PE X (.Call (.Name x p) [.Starred e p'] [] pos) (tMakeLS i X.K C sp E te) := by
  refine ⟨fun pins s σ H Q I ⟨hs, h⟩ => wpAny_Call_Name_kw (thn ((pe_var (pos := p) hN hv hdb hcd).run pins s σ H (fun v H1 => v = .ref C ∧ H1 = H) I ⟨.ref C, hs, rfl, rfl⟩) fun u s1 ⟨v, H1, I1, r1, q1⟩ => ?_)⟩
  obtain ⟨rfl, rfl⟩ := q1
  cases (show u = Value.ref C from r1)
  refine PySem.W.callWith_S (h₀ := X.base) I1.ok.mod.kin M.kp (thn (he.run pins s1 σ _ _ I1 h) fun v s2 ⟨y, H2, I2, ry, a, xs, ey, hxs, q⟩ => ?_) hst
  subst ey
  obtain rfl : v = Value.ref a := ry
  exact star_any I2 hxs fun us s3 I3 rv => ⟨I3.kIn, run_makeGR M F hr hx I3 rv q⟩
end
section
variable {K : PySem.W.Frag} {H H1 : Hp} {σ : L2.St} {Q : VK} {E : XK} {sp : Sp} {C a p : Addr} {i : Nat} {xs rest : List V} {te : TE}
theorem st_makeS (q : te σ H fun y H1 => ∃ a xs, y = V.ref a ∧ (SqT K H1 a xs ∨ SqL K H1 a xs) ∧ MakeK C sp [] E xs H1 Q) : tMakeS K C sp E te σ H Q := q
theorem st_makeLS (hs : σ[i]? = some (some (.ref C))) (q : tMakeS K C sp E te σ H Q) : tMakeLS i K C sp E te σ H Q := ⟨hs, q⟩
/-- an instance by a star __init__ with no parameter but self ahead: the tuple stands at p -/
theorem mk_star (le : xs.length ≤ sizeLine) (q : ∀ x dx p H', H x = none → H p = none → Kp H H' → H' x = some (.ins C dx []) → H' p = some (.tup xs) → sp [.ref x, .ref p] H' (fun v H2 => v = .non ∧ Q (.ref x) H2) E) : MakeK C (starSp 1 sp) [] E xs H Q := by
  refine st_mkK fun x dx H1 hn k hx => ?_
  refine ⟨[.ref x], xs, by simp, rfl, le, fun p hp => ?_⟩
  have kp : Kp H1 (upd H1 p (.tup xs)) := Kp.new hp
  exact q x dx p _ hn (k.back hp) (k.trans kp) (kp _ _ hx) upd_same
end
end G
namespace G
open PySem PySem.Spec PyProof.Rows L2
/-! ### dicts: y in d, d[y], d[y] = v; tuples put together, one of them empty or not -/
section
variable {K : PySem.W.Frag} {σ : L2.St} {H : Hp} {Q : VK} {td ty tv : TE} {a b p : Addr} {kvs : List (Key × V)} {v x : V} {s : Str} {i : Int} {n : L2.St → Hp → Prop} {r : VK} {bk c : L2.St → Hp → Prop} {xs ys zs : List V}
def DInK (b : Bool) (y x : V) (H : Hp) (Q : VK) : Prop := ∃ a o, x = .ref a ∧ DGet H a y o ∧ Q (.bl (if b then o.isSome else !o.isSome)) H
theorem st_din (q : ty σ H fun y H1 => td σ H1 fun x H2 => DInK true y x H2 Q) : tDIn ty td σ H Q := q
theorem st_dnotin (q : ty σ H fun y H1 => td σ H1 fun x H2 => DInK false y x H2 Q) : tDNotIn ty td σ H Q := q
theorem din_s (h : H a = some (.dK kvs)) (q : Q (.bl (valV kvs (.inr s)).isSome) H) : DInK true (.str s) (.ref a) H Q := ⟨a, _, rfl, .k (k := .inr s) h, q⟩
theorem din_i (h : H a = some (.dK kvs)) (q : Q (.bl (valV kvs (.inl i)).isSome) H) : DInK true (.int i) (.ref a) H Q := ⟨a, _, rfl, .k (k := .inl i) h, q⟩
theorem dnot_s (h : H a = some (.dK kvs)) (q : Q (.bl (!(valV kvs (.inr s)).isSome)) H) : DInK false (.str s) (.ref a) H Q := ⟨a, _, rfl, .k (k := .inr s) h, q⟩
theorem dnot_i (h : H a = some (.dK kvs)) (q : Q (.bl (!(valV kvs (.inl i)).isSome)) H) : DInK false (.int i) (.ref a) H Q := ⟨a, _, rfl, .k (k := .inl i) h, q⟩
def DGK (x y : V) (H : Hp) (Q : VK) : Prop := ∃ a v, x = .ref a ∧ DGet H a y (some v) ∧ Q v H
theorem st_dget (q : td σ H fun x H1 => ty σ H1 fun y H2 => DGK x y H2 Q) : tDGet td ty σ H Q := q
theorem dget_s (h : H a = some (.dK kvs)) (e : valV kvs (.inr s) = some v) (q : Q v H) : DGK (.ref a) (.str s) H Q := ⟨a, v, rfl, by rw [← e]; exact .k (k := .inr s) h, q⟩
theorem dget_i (h : H a = some (.dK kvs)) (e : valV kvs (.inl i) = some v) (q : Q v H) : DGK (.ref a) (.int i) H Q := ⟨a, v, rfl, by rw [← e]; exact .k (k := .inl i) h, q⟩
def DPK (x y v : V) (H : Hp) (R : Hp → Prop) : Prop := ∃ a H4, x = .ref a ∧ DPut H a y v H4 ∧ R H4
theorem st_dput (q : tv σ H fun v H1 => td σ H1 fun x H2 => ty σ H2 fun y H3 => DPK x y v H3 (n σ)) : sDPut td ty tv ⟨n, r, bk, c⟩ σ H := q
theorem MD.put {kvs' : List (Key × V)} (h : H a = some (.dK kvs)) : MD a H (upd H a (.dK kvs')) := ⟨⟨_, h⟩, fun b o n k _ => by rw [upd_ne n]; exact k, none_upd h, fun _ t => tab_upd h rfl (fun _ _ => dK_code) t⟩
theorem dput_i {R : Hp → Prop} (h : H a = some (.dK kvs)) (l : kvs.length < sizeLine) (q : ∀ H', MD a H H' → H' a = some (.dK (putK kvs (.inl i) v)) → R H') : DPK (.ref a) (.int i) v H R := ⟨a, _, rfl, .k (k := .inl i) h l, q _ (MD.put h) upd_same⟩
theorem dput_s {R : Hp → Prop} (h : H a = some (.dK kvs)) (l : kvs.length < sizeLine) (q : ∀ H', MD a H H' → H' a = some (.dK (putK kvs (.inr s) v)) → R H') : DPK (.ref a) (.str s) v H R := ⟨a, _, rfl, .k (k := .inr s) h l, q _ (MD.put h) upd_same⟩
theorem cat_a (h1 : SqT K H a xs) (h2 : SqT K H b ys) (l : xs.length + ys.length ≤ sizeLine) (q : ∀ p H', Kp H H' → SqT K H' p (xs ++ ys) → Q (.ref p) H') : rCatA K (.ref a) (.ref b) H Q :=
  ⟨a, b, xs, ys, rfl, rfl, h1, h2, l, fun e => q b H Kp.refl (by rw [e]; exact h2), fun _ e => q a H Kp.refl (by rw [e, List.append_nil]; exact h1), fun _ _ p hp => q p _ (Kp.new hp) (SqT.of upd_same)⟩
theorem sl_a {lo hi : Option Int} (h : SqT K H a xs) (q : ∀ p H', Kp H H' → SqT K H' p (cutV xs lo hi) → Q (.ref p) H') : rSlA K (.ref a) lo hi H Q :=
  ⟨a, xs, rfl, h, fun e => q a H Kp.refl (by
    have e2 : cutV xs lo hi = xs := by
      unfold cutV
      rw [e.1, e.2, List.drop_zero, Nat.sub_zero, List.take_length]
    rw [e2]
    exact h), fun _ p hp => q p _ (Kp.new hp) (SqT.of upd_same)⟩
theorem op_catAK {X : Cx} (e : X.K = K) : OpR X (binaryOp .Add) (rCatA K) := by subst e; exact op_catA
theorem sl_aK {X : Cx} (e : X.K = K) : SlR X (rSlA K) := by subst e; exact sl_tupA
end
section
variable {X : Cx} {CX : CXT} {k : Nat} {g : Addr} {fd : FuncData} {ps : List Str} {sp : Sp} {E : XK} {m : Str} {e : Expr} {ta : TE} {pos : Pos} {K : PySem.W.Frag}
/-- x.m, m a property, in a block (K told) -/
theorem pe_propPK (e0 : X.K = K) (he : PE X e ta) (F : FnG X.prog X.w K X.mg X.base CX k g fd ps sp) (hr : RoomG (k + 1) X.A) (hb : Binds K fd ps []) (hx : Passes CX X.nox E)
    (hab : attributeBase e m X.env (eval e X.env) = eval e X.env) : PE X (.Attribute e m pos) (tPropP K m g sp E ta) := by
  subst e0
  exact pe_propP he F hr hb hx hab
end
end G
namespace G
open PySem PySem.Spec PySem.Calls PyProof.Rows L2
/-! ### set(a list of ints), sorted of such a set -/
section
variable {P : Program} {w : World} {A : Around} {E : Value → Shared → Prop} {s : Shared}
/-- a set that has nothing yet -/
abbrev set0 (w : World) : Obj := { cls := .type "set", dict := none, data := .set #[] 0 (.fresh 0 0 (!w.params.followText "set-order")) }
theorem call_setL {l : Addr} {its : Array Value} {ns : List Int} {Q : Value → Shared → Prop} (hh : A.handled = none) (hl : s.heap.IsList l its) (hi : IntsAre its.toList ns) (hb : ns.length + 1 < scanBound)
    (h : ∀ (h' : Heap) (tk c : Nat), SetR w h' s.heap.objs.size (fun j => decide (j ∈ ns)) c → c ≤ ns.length → (∀ b o, s.heap.get? b = some o → h'.get? b = some o) → Q (.ref s.heap.objs.size) { s with heap := h', toks := tk }) :
    wpAny (model P w) A (call (.type "set") [.ref l]) Q E s := by
  have n1 : its.size = ns.length := by
    have := IntsAre.length hi
    rwa [Array.length_toList] at this
  have lt : l < s.heap.objs.size := by
    obtain ⟨_, e, _⟩ := hl
    exact Heap.lt_size e
  have at0 : (s.heap.push (set0 w)).get? s.heap.objs.size = some (set0 w) := Heap.get?_push_size _ rfl
  have ty0 : Shared.TypeIs { s with heap := s.heap.push (set0 w) } (.ref s.heap.objs.size) "set" := ⟨_, at0, rfl⟩
  -- the making: set.__new__, then set.__init__
  have mk : codeAny (model P w) A.in1 (.call (.builtin "set.__new__") ⟨[.type "set", .ref l], []⟩) (wants (fun v s1 => v = .ref s.heap.objs.size ∧ s1 = { s with heap := s.heap.push (set0 w) }) E) s := code_set_led1 (.ref l) ⟨rfl, rfl⟩
  obtain ⟨f1, f2, f3, ⟨c0, t0, f4⟩, f5, f6⟩ := id (show _ ∧ _ ∧ _ ∧ (∃ c tl, _) ∧ _ ∧ _ from ⟨F.called_set.notType, F.called_set.canCreate, F.typeCall_set_1 (.ref l), F.called_set.mro, F.called_set.made, F.called_set.sub⟩)
  refine wpAny_call (codeAny_of_tree ?_)
  show wpAny _ _ (callAny (.type "set") _) _ _ _
  refine wpAny_pure ⟨Code.quiet_builtin _ (by decide +kernel), codeAny_builtin F.entry_type_call ?_⟩
  rw [Around.under_plain (weight_type_call_type "set" [.ref l] []) rfl]
  repeat (any_goals (first | assumption | wp_step))
  refine codeAny_mono mk ?_
  rintro (er | fl) s1 hr
  · exact hr
  cases fl with
  | next => exact hr.elim
  | brk => exact hr.elim
  | cont => exact hr.elim
  | ret v =>
  obtain ⟨rfl, rfl⟩ := hr
  have i1 := F.called_set.init.lookup
  have i2 := F.called_set.init.bind (.ref s.heap.objs.size)
  repeat (any_goals (first | assumption | wp_step))
  refine codeAny_mono (codeAny_call_builtin (R := wants (fun r s₂ => r = .none ∧ Q (.ref s.heap.objs.size) s₂) E) F.called_set.init.plain F.entry_set_init (check_set_init_1 ty0 ?_)) ?_
  rotate_left
  · rintro (er | fl) s2 hr
    · exact hr
    cases fl with
    | next => exact hr.elim
    | brk => exact hr.elim
    | cont => exact hr.elim
    | ret v =>
    obtain ⟨rfl, hq⟩ := hr
    repeat (any_goals (first | assumption | wp_step))
  obtain ⟨ol, e1, ec, nl, ed⟩ := hl
  obtain ⟨cl, dc, dt, sl⟩ := ol
  cases ec
  cases (show dt = .seq its nl from ed)
  have e2 := Heap.get?_push_of_some (set0 w) e1
  have hl2 : (s.heap.push (set0 w)).IsList l its := ⟨_, e2, rfl, nl, rfl⟩
  have sb1 := F.sub_list_set
  have sb2 := F.sub_list_frozenset
  have nd : (Value.type "list" == Value.type "dict") = false := by decide
  unfold Builtin.«set.__init__» noKeywords Builtin.Frozenset.updateFrom
  generalize hPI : pyIter = PI
  wp_walk
  subst hPI
  refine wpAny_pyIter_list hl2 (wpAny_bind (wpAny_runValue ?_))
  have z1 : (s.heap.push (set0 w)).objs.size = s.heap.objs.size + 1 := Heap.size_push ..
  have ne1 : l ≠ (s.heap.push (set0 w)).objs.size := by rw [z1]; exact Nat.ne_of_lt (Nat.lt_succ_of_lt lt)
  have out : s.heap.objs.size ∉ [(s.heap.push (set0 w)).objs.size, l] := by
    simp only [List.mem_cons, List.not_mem_nil, or_false, not_or, z1]
    exact ⟨Nat.ne_of_lt (Nat.lt_succ_self _), Nat.ne_of_gt lt⟩
  have ok : ∀ (i : Nat) (v : Value), its[i]? = some v → ∃ k t, ns[i]? = some k ∧ v = .int k t := fun i v hv => by
    obtain ⟨t, e⟩ := IntsAre.int_at hi i v (by rw [Array.getElem?_toList]; exact hv)
    have lt2 : i < ns.length := by rw [← n1]; exact (Array.getElem?_eq_some_iff.mp hv).1
    exact ⟨ns.getD i 0, t, by rw [List.getD_eq_getElem?_getD, List.getElem?_eq_getElem lt2]; rfl, e⟩
  have hh2 : A.in1.in1.in1.handled = none := by simp [hh]
  refine set_update_ints ((Walks.list hh2 _ l ne1 its).toS) s.heap.objs.size out ns n1 hb ok its.size 0 _ (by omega) (Nat.zero_le _) ⟨⟨_, Heap.get?_push_size _ rfl, rfl, rfl⟩, hl2.push _⟩ ⟨0, Nat.le_refl 0, setR_new_at (Heap.get?_push_of_some _ at0)⟩ ?_
  intro s2 c hm hc hS
  have g1 : s2.gens = s.gens := hm.gens
  have g2 : s2.drawn = s.drawn := hm.drawn
  have g3 : s2.os = s.os := hm.os
  have kp : ∀ b o, s.heap.get? b = some o → s2.heap.get? b = some o := fun b o e => by
    have lb := Heap.lt_size e
    refine hm.heap b o (fun hz => ?_) (Heap.get?_push_of_some _ (Heap.get?_push_of_some _ e))
    simp only [List.mem_cons, List.not_mem_nil, or_false, z1] at hz
    rcases hz with hz | hz
    · exact Nat.ne_of_lt lb hz
    · exact Nat.ne_of_lt (Nat.lt_succ_of_lt lb) hz
  have fin := h s2.heap s2.toks c hS (by omega) kp
  rw [← g1, ← g2, ← g3] at fin
  exact wpAny_pure (wpAny_pure ⟨rfl, fin⟩)
end
end G
namespace G
open PySem PySem.Spec PySem.Calls PyProof.Rows L2
section
variable {X : Cx} {K : PySem.W.Frag} {w : World} {H : Hp} {Q : VK} {a : Addr} {ns : List Int}
/-- set(a list of ints) -/
def rSetL (K : PySem.W.Frag) (w : World) : List V → Hp → VK → Prop := fun xs H Q => ∃ (l : Addr) (ns : List Int), xs = [V.ref l] ∧ SqL K H l (ns.map V.int) ∧ ns.length ≤ 1000 ∧ ∀ p c, H p = none → c ≤ ns.length → Q (.ref p) (upd H p (SetO w p (fun j => decide (j ∈ ns)) c))
theorem cr_setL (hc : X.calm = true) : CallR X (.type "set") (rSetL X.K X.w) := by
  rintro pins s σ H _ us Q I r ⟨l, ns, rfl, hl, n1, q⟩
  rw [Vals.ref1 r]
  obtain ⟨its, rv, pl, _⟩ := I.list hl
  exact call_setL (I.ok.hd hc) pl.isList rv.ints (by unfold scanBound; omega) fun h' tk c R le k =>
    ⟨.ref _, upd H _ (SetO X.w _ _ c), I.laid (t' := tk) k (Nat.le_refl _) (setO_new R), rfl, q _ c (I.hok.fresh (Nat.le_refl _)) le⟩
/-- sorted(such a set) -/
def rSortedS (w : World) : List V → Hp → VK → Prop := fun xs H Q => ∃ (a : Addr) (S : Int → Bool) (n : Nat), xs = [V.ref a] ∧ H a = some (SetO w a S n) ∧ n < 64 ∧ ∀ (ns : List Int) (p : Addr), ns.Pairwise (· < ·) → (∀ k, k ∈ ns ↔ S k = true) → H p = none → Q (.ref p) (upd H p (.lst (ns.map V.int)))
theorem cr_sortedSet (hc : X.calm = true) : CallR X (.builtin "sorted") (rSortedS X.w) := by
  rintro pins s σ H _ us Q I r ⟨a, S, n, rfl, ha, n1, q⟩
  rw [Vals.ref1 r]
  refine sorted_set (setO_get I ha) (I.ok.hd hc) n1 fun s2 p out c ns kp g o hp hg hi up mem len => ?_
  have new := I.hok.fresh hp
  obtain ⟨h2, gs, d2, t2, os2⟩ := s2
  cases (show gs = s.gens from g)
  cases (show os2 = s.os from o)
  have J : Inv X pins σ (upd H p (.lst (ns.map V.int))) { s with heap := h2, drawn := d2, toks := t2 } :=
    I.call (ch := []) (Un.laid kp hp new) (I.hok.laid kp hp ⟨by rw [List.length_map, len, sizeLine_eq]; omega, out.toList, c, vals_of_ints hi, hg⟩) I.bare (fun _ z => nomatch z)
  exact ⟨.ref p, _, J, rfl, q ns p up mem new⟩
theorem set_l (h : SqL K H a (ns.map V.int)) (l : ns.length ≤ 1000) (q : ∀ p c H', H p = none → Kp H H' → c ≤ ns.length → H' p = some (SetO w p (fun j => decide (j ∈ ns)) c) → Q (.ref p) H') : rSetL K w [.ref a] H Q :=
  ⟨a, ns, rfl, h, l, fun p c e le => q p c _ e (Kp.new e) le upd_same⟩
theorem sorted_s {S : Int → Bool} {n : Nat} (h : H a = some (SetO w a S n)) (l : n < 64) (q : ∀ (p : Addr) (ms : List Int) (H' : Hp), H p = none → Kp H H' → ms.Pairwise (· < ·) → (∀ k, k ∈ ms ↔ S k = true) → H' p = some (.lst (ms.map V.int)) → Q (.ref p) H') : rSortedS w [.ref a] H Q :=
  ⟨a, S, n, rfl, h, l, fun ms p up mem e => q p ms _ e (Kp.new e) up mem upd_same⟩
theorem sorted_i (h : SqL K H a (ns.map V.int)) (q : ∀ (p : Addr) (ms : List Int) (H' : Hp), H p = none → Kp H H' → ms.Perm ns → ms.Pairwise (· ≤ ·) → H' p = some (.lst (ms.map V.int)) → Q (.ref p) H') : rSortedI K [.ref a] H Q :=
  ⟨a, ns, rfl, h, fun ms p pm up e => q p ms _ e (Kp.new e) pm up upd_same⟩
end
end G
namespace G
open PySem PySem.Spec PyProof.Rows L2
/-! ### tuples put together and sliced, told by what stands in the heap -/
section
variable {K : PySem.W.Frag} {H : Hp} {Q : VK} {a b : Addr} {xs ys : List V}
theorem cat_h (h1 : H a = some (.tup xs)) (h2 : H b = some (.tup ys)) (l : xs.length + ys.length ≤ sizeLine) (q : ∀ p H', Kp H H' → H' p = some (.tup (xs ++ ys)) → Q (.ref p) H') : rCatA K (.ref a) (.ref b) H Q :=
  ⟨a, b, xs, ys, rfl, rfl, .of h1, .of h2, l, fun e => q b H .refl (by rw [e]; exact h2), fun _ e => q a H .refl (by rw [e, List.append_nil]; exact h1), fun _ _ p hp => q p _ (Kp.new hp) upd_same⟩
theorem sl_h {lo hi : Option Int} (h : H a = some (.tup xs)) (q : ∀ p H', Kp H H' → H' p = some (.tup (cutV xs lo hi)) → Q (.ref p) H') : rSlA K (.ref a) lo hi H Q :=
  ⟨a, xs, rfl, .of h, fun hw => q a H .refl (by
    have e : cutV xs lo hi = xs := by
      rw [cutV, hw.1, hw.2, List.drop_zero, Nat.sub_zero, List.take_length]
    rw [e]
    exact h), fun _ p hp => q p _ (Kp.new hp) upd_same⟩
end
end G
namespace G
open PySem PySem.Spec PySem.Calls PyProof.Rows L2
/-! ### C.m(..), m a def of the class itself -/
/-- C.m is a def -/
def cfnB (x m : Str) : ExB := fun K => (match PySem.W.findCls K (.ref (He.ga K x)) (.type "type") m with
  | some (.val (.ref a)) => decide (a = He.ma K (He.ga K x) m)
  | _ => false) && PySem.W.keepIn K (.ref (He.ma K (He.ga K x) m))
structure CFn (K : PySem.W.Frag) (C : Addr) (mc : Value) (m : Str) (g : Addr) : Prop where
  at_ : PySem.W.findCls K (.ref C) mc m = some (.val (.ref g))
  kp : PySem.W.keepIn K (.ref g) = true
theorem cfnB_ok {K : PySem.W.Frag} {x m : Str} (h : cfnB x m K = true) : CFn K (He.ga K x) (.type "type") m (He.ma K (He.ga K x) m) := by
  obtain ⟨h1, h2⟩ := He.ba h
  split at h1
  · rename_i a e
    exact ⟨by rw [e, of_decide_eq_true h1], h2⟩
  · cases h1
section
variable {X : Cx} {CX : CXT} {k : Nat} {C g : Addr} {mc : Value} {sp : Sp} {E : XK} {o e : Expr} {es : List Expr} {m : Str} {pos apos : Pos} {ta : TE} {t : TA} {pl : Sem Bool} {fd : FuncData} {ps : List Str} {dvs : List V} {ds : List Value}
theorem pe_cfn (he : PE X o ta) (r : ClX.CRead X.K C mc) (c : CFn X.K C mc m g) (F : FnG X.prog X.w X.K X.mg X.base CX k g fd ps sp) (hr : RoomG k X.A) (hb : Binds X.K fd ps ds) (hd : Vals dvs ds) (hx : Passes CX X E) (ha : PA X (e :: es) t)
    (hst : starEach (e :: es) X.env = (false, eval e X.env) :: starEach es X.env := by rfl) (hpl : (backTo pos (starEach es X.env)).any (·.1) = false := by rfl)
    (ht : eval (.Call (.Attribute o m apos) (e :: es) [] pos) X.env = (do
      let ov ← eval o X.env
      standAt apos.atName
      let (f, first) ← holding [ov] (getMethod ov m pl)
      callWith pos f first (backTo pos (starEach (e :: es) X.env)) (backToKw pos (keywordEach [] X.env))) := by rfl) :
    PE X (.Call (.Attribute o m apos) (e :: es) [] pos) (tSM C sp dvs E ta t) := by
  refine ⟨fun pins s σ H Q I h => ?_⟩
  refine PySem.W.methodCall_KW (pl := pl) (thn (he.run pins s σ H _ I h) fun u s1 ⟨x, H1, I1, rx, ex, q⟩ => ?_) ht
  subst ex
  obtain rfl : u = Value.ref C := rx
  refine PySem.W.method_cls I1.kIn r.ga (PySem.W.cls_value I1.kIn r.rd c.at_ rfl ?_)
  have I2 := I1.tok (s1.toks + 1)
  refine PySem.W.callWith_K (first := []) (h₀ := X.base) I2.ok.mod.kin c.kp (thn (ha.run pos pins _ σ H1 _ I2 q) fun us s2 ⟨vs, H2, I3, rv, q2⟩ => ⟨I3.kIn, ?_⟩) hst hpl
  exact run_fnG F hr hb hd hx I3 rv q2
end
/-! ### two roads for one expression -/
def tOr (a b : TE) : TE := fun σ H Q => a σ H Q ∨ b σ H Q
theorem pe_or {X : Cx} {e : Expr} {a b : TE} (ha : PE X e a) (hb : PE X e b) : PE X e (tOr a b) := ⟨fun pins s σ H Q I h => h.elim (ha.run pins s σ H Q I) (hb.run pins s σ H Q I)⟩
/-! ### == of tuples, == and != of lists, whose items are the same objects or are compared by their own defs -/
def TSteps (M : Model) (A : Around) (E : Value → Shared → Prop) : List (Value × Value) → (Bool → Shared → Prop) → Shared → Prop
  | [], Q, s => Q true s
  | (x, y) :: t, Q, s => wpAny M A.in1 (eqBool x y) (fun c s' => if c = true then TSteps M A E t Q s' else Q false s') E s
section
variable {prog : Program} {w : World} {A : Around} {E : Value → Shared → Prop} {R : Result → Shared → Prop}
theorem tuple_eqO (l b : Addr) (items items2 : Array Value) (n n2 : Nat) (dd dd2 : Option Addr) (sl sl2 : Array (Option Value)) (hsz : items.size = items2.size) {s : Shared}
    (hl1 : s.heap.get? l = some { cls := .type "tuple", dict := dd, data := .seq items n, slots := sl }) (hb1 : s.heap.get? b = some { cls := .type "tuple", dict := dd2, data := .seq items2 n2, slots := sl2 })
    (h : TSteps (model prog w) A (fun e s' => R (.error e) s') (items.toList.zip items2.toList) (fun c s' => R (.ok (.ret (.bool c))) s') s) :
    wpAny (model prog w) A.in1 (Builtin.«tuple.__eq__» ⟨[.ref l, .ref b], []⟩) (fun fin s' => match fin with
        | Fin.done f => R (Except.ok f) s'
        | Fin.again c' => c'.quiet = true ∧ codeAny (model prog w) A c' R s') (fun e s' => R (.error e) s') s := by
  have f2 := AutoSeq1.sub_tuple_tuple
  have h0 := h
  obtain ⟨hp, g, d, tk, os⟩ := s
  wp_walk using wpAny_loadPart' hl1, wpAny_loadPart' hb1, wpAny_forIn_list _ (fun rest b s' => b.1 = none ∧ TSteps (model prog w) A (fun e s' => R (.error e) s') rest (fun c s' => R (.ok (.ret (.bool c))) s') s') _
  case turn =>
    rintro ⟨y, x⟩ rest b s' ⟨hb', h⟩
    refine wpAny_bind (wpAny_mono h (fun r s2 q2 => ?_) fun _ _ x => x)
    cases r
    · rw [if_neg (by decide)] at q2
      wp_walk
      exact q2
    · rw [if_pos rfl] at q2
      wp_walk
      exact ⟨rfl, q2⟩
  case fin =>
    rintro ⟨b1, b2⟩ s' ⟨hb', h⟩
    simp only at hb'
    subst hb'
    have hR : R (.ok (.ret (.bool true))) s' := h
    wp_walk
    simpa [Builtin.Tuple.tupleCompareSizes, hsz] using hR
  case h =>
    exact ⟨rfl, h0⟩
theorem rc_tupO {l b : Addr} {items items2 : Array Value} {Q : Value → Shared → Prop} {s : Shared} (hsz : items.size = items2.size) (hu : A.units < cLine) (hl : s.heap.IsTuple l items) (hb : s.heap.IsTuple b items2)
    (h : TSteps (model prog w) A E (items.toList.zip items2.toList) (fun c s' => Q (.bool c) s') s) : wpAny (model prog w) A (richCompare .Eq (.ref l) (.ref b)) Q E s := by
  obtain ⟨⟨cls, dd, data, sl⟩, ho, hc, n, hd⟩ := id hl
  obtain ⟨⟨cls2, dd2, data2, sl2⟩, ho2, hc2, n2, hd2⟩ := id hb
  simp only at hc hd hc2 hd2
  subst hc hd hc2 hd2
  refine wpAny_richCompare_same_room (op := .Eq) ⟨_, ho, rfl⟩ ⟨_, ho2, rfl⟩ F.slot_tuple_eq (call_of F.slot_tuple_eq ⟨_, ho, rfl⟩ F.entry_tuple_eq (F.args_tuple_eq_2 _ _) ?_) hu
  refine tuple_eqO (R := wants (fun v s' => v ≠ .notImplemented ∧ Q v s') E) l b items items2 n n2 dd dd2 sl sl2 hsz ho ho2 ?_
  have mono : ∀ {t : List (Value × Value)} {s : Shared}, TSteps (model prog w) A E t (fun c s' => Q (.bool c) s') s → TSteps (model prog w) A (fun e s' => wants (fun v s' => v ≠ .notImplemented ∧ Q v s') E (.error e) s') t (fun c s' => wants (fun v s' => v ≠ .notImplemented ∧ Q v s') E (.ok (.ret (.bool c))) s') s := by
    intro t
    induction t with
    | nil => exact fun q => ⟨(fun x => nomatch x), q⟩
    | cons p t ih =>
      intro s q
      exact wpAny_mono q (fun c s' z => by
        cases c
        · exact ⟨(fun x => nomatch x), z⟩
        · exact ih z) fun _ _ e => e
  exact mono h
end
/-- items compared one by one; hold: what stays -/
def StepsW (r : R2) (hold : Hp → Prop) : List (V × V) → Hp → (Bool → Hp → Prop) → Prop
  | [], H, Q => hold H ∧ Q true H
  | (x, y) :: t, H, Q => hold H ∧ ((∃ p, x = .ref p ∧ y = .ref p ∧ StepsW r hold t H Q) ∨
      (∃ p, x = .ref p ∧ y ≠ .ref p) ∧ r x y H (fun v H' => ∃ c, v = .bl c ∧ if c = true then StepsW r hold t H' Q else hold H' ∧ Q false H'))
def rEqTO (K : PySem.W.Frag) (r : R2) : R2 := fun x y H Q => ∃ a b xs ys, x = .ref a ∧ y = .ref b ∧ SqT K H a xs ∧ SqT K H b ys ∧ xs.length = ys.length ∧ StepsW r (fun _ => True) (xs.zip ys) H fun c H' => Q (.bl c) H'
def rEqLW (b0 : Bool) (r : R2) : R2 := fun x y H Q => ∃ a b xs ys, x = .ref a ∧ y = .ref b ∧ xs.length = ys.length ∧ StepsW r (fun H => H a = some (.lst xs) ∧ H b = some (.lst ys)) (xs.zip ys) H fun c H' => Q (.bl (c == b0)) H'
theorem StepsW.hold {r : R2} {hold : Hp → Prop} {t : List (V × V)} {H : Hp} {Q : Bool → Hp → Prop} (h : StepsW r hold t H Q) : hold H := by
  cases t with
  | nil => exact h.1
  | cons p t => exact h.1
section
variable {X : Cx}
theorem eqBool_same {M : Model} {A : Around} {E : Value → Shared → Prop} {Q : Bool → Shared → Prop} {s : Shared} {p : Addr} (h : Q true s) : wpAny M A (eqBool (.ref p) (.ref p)) Q E s := by
  delta eqBool
  refine wpAny_holding ?_
  refine wpAny_ite_true (by simp) ?_
  exact wpAny_bind (wpAny_rule (wpAny_pure h))
theorem tsteps_of {r : R2} (h : OpR (in1X X) (compareOp .Eq) r) {pins : List (Addr × Obj)} {σ : L2.St} {Q : Bool → Hp → Prop} {xs ys : List V} {us vs : List Value} : ∀ (s : Shared) (H : Hp), Vals xs us → Vals ys vs → Inv X pins σ H s → StepsW r (fun _ => True) (xs.zip ys) H Q →
    TSteps (model X.prog X.w) X.A X.xe (us.zip vs) (fun c s' => ∃ H', Inv X pins σ H' s' ∧ Q c H') s := by
  intro s H r1 r2
  induction r1 generalizing s H ys vs with
  | nil => exact fun I q => ⟨H, I, q.2⟩
  | cons a _ ih =>
    cases r2 with
    | nil => exact fun I q => ⟨H, I, q.2⟩
    | cons b r2 =>
      intro I q
      obtain ⟨_, q⟩ := q
      rcases q with ⟨p, rfl, rfl, q⟩ | ⟨⟨p, rfl, n⟩, q⟩
      · cases (show _ = Value.ref p from a)
        cases (show _ = Value.ref p from b)
        exact eqBool_same (by rw [if_pos rfl]; exact ih s H r2 I q)
      · cases (show _ = Value.ref p from a)
        refine eqBool_ref (ref_beq n b) ?_
        refine wpAny_mono (h pins s σ H (.ref p) _ (.ref p) _ _ (inv_in1 I) rfl b q) ?_ fun _ _ e => e
        rintro t s' ⟨tv, H', I', rt, c, rfl, q'⟩
        cases (show t = Value.bool c from rt)
        refine ⟨c, rfl, ?_⟩
        cases c
        · rw [if_neg (by decide)] at q' ⊢
          exact ⟨H', inv_out1 I', q'.2⟩
        · rw [if_pos rfl] at q' ⊢
          exact ih s' H' r2 (inv_out1 I') q'
theorem op_eqTO {r : R2} (h : OpR (in1X X) (compareOp .Eq) r) (hu : X.A.units < cLine) : OpR X (compareOp .Eq) (rEqTO X.K r) := by
  intro pins s σ H x y v u Q I rx ry q
  obtain ⟨a, b, xs, ys, rfl, rfl, ha, hb, hl, q⟩ := q
  cases (show v = Value.ref a from rx)
  cases (show u = Value.ref b from ry)
  obtain ⟨its, r1, e1, z1⟩ := I.tuple ha
  obtain ⟨its2, r2, e2, z2⟩ := I.tuple hb
  have S := tsteps_of h s H r1 r2 I q
  have mono : ∀ {t : List (Value × Value)} {s : Shared}, TSteps (model X.prog X.w) X.A X.xe t (fun c s' => ∃ H', Inv X pins σ H' s' ∧ Q (.bl c) H') s → TSteps (model X.prog X.w) X.A X.xe t (fun c s' => EP X pins σ Q (.bool c) s') s := by
    intro t
    induction t with
    | nil => rintro s ⟨H', I', q⟩; exact ⟨.bl true, H', I', rfl, q⟩
    | cons p t ih =>
      intro s q
      exact wpAny_mono q (fun c s' z => by
        cases c
        · obtain ⟨H', I', q⟩ := z
          exact ⟨.bl false, H', I', rfl, q⟩
        · exact ih z) fun _ _ e => e
  exact rc_tupO (prog := X.prog) (w := X.w) (A := X.A) (E := X.xe) (Q := EP X pins σ Q) (by rw [List.size_toArray, List.size_toArray, ← r1.length, ← r2.length]; exact hl) hu e1 e2 (mono S)
theorem stepsw_of {r : R2} (h : OpR (in1X X) (compareOp .Eq) r) {pins : List (Addr × Obj)} {σ : L2.St} {a b : Addr} {xs ys : List V} (hl : xs.length = ys.length) {Q : Bool → Hp → Prop} (k : Nat) : ∀ (i : Nat) (s : Shared) (H : Hp), xs.length - i = k → i ≤ xs.length → Inv X pins σ H s → StepsW r (fun H => H a = some (.lst xs) ∧ H b = some (.lst ys)) ((xs.zip ys).drop i) H Q →
    EqSteps (model X.prog X.w) X.A X.xe a b xs.length k i (fun c s' => ∃ H', Inv X pins σ H' s' ∧ Q c H') s := by
  have has : ∀ {s : Shared} {H : Hp}, Inv X pins σ H s → (H a = some (.lst xs) ∧ H b = some (.lst ys)) → HasL s a b xs.length := by
    intro s H I e
    obtain ⟨ia, va, ea⟩ := lst_at (s := s) I.hok e.1
    obtain ⟨ib, vb, eb⟩ := lst_at (s := s) I.hok e.2
    exact ⟨_, _, ea, eb, by rw [List.size_toArray, ← paired_len va], by rw [List.size_toArray, ← paired_len vb, hl]⟩
  induction k with
  | zero =>
    intro i s H hk hi I q
    have hz : (xs.zip ys).drop i = [] := by
      rw [List.drop_eq_nil_iff, List.length_zip]
      omega
    rw [hz] at q
    exact ⟨has I q.1, H, I, q.2⟩
  | succ k ih =>
    intro i s H hk hi I q
    obtain ⟨x, hx⟩ : ∃ x, xs[i]? = some x := ⟨_, List.getElem?_eq_getElem (by omega)⟩
    obtain ⟨y, hy⟩ : ∃ y, ys[i]? = some y := ⟨_, List.getElem?_eq_getElem (by omega)⟩
    have hz : (xs.zip ys).drop i = (x, y) :: (xs.zip ys).drop (i + 1) := by
      have hlen : i < (xs.zip ys).length := by rw [List.length_zip]; omega
      rw [List.drop_eq_getElem_cons hlen]
      congr 1
      rw [List.getElem_zip]
      rw [List.getElem?_eq_some_iff] at hx hy
      obtain ⟨_, h1⟩ := hx
      obtain ⟨_, h2⟩ := hy
      rw [h1, h2]
    rw [hz] at q
    obtain ⟨e, q⟩ := q
    obtain ⟨ia, va, ea⟩ := lst_at (s := s) I.hok e.1
    obtain ⟨ib, vb, eb⟩ := lst_at (s := s) I.hok e.2
    obtain ⟨u, hu, ru⟩ := paired_at va hx
    obtain ⟨v, hv, rv⟩ := paired_at vb hy
    refine ⟨_, _, u, v, ea, eb, by rw [List.size_toArray, ← paired_len va], by rw [List.size_toArray, ← paired_len vb, hl], by simpa using hu, by simpa using hv, ?_⟩
    rcases q with ⟨p, rfl, rfl, q⟩ | ⟨⟨p, rfl, n⟩, q⟩
    · cases (show u = Value.ref p from ru)
      cases (show v = Value.ref p from rv)
      exact eqBool_same (by rw [if_pos rfl]; exact ih (i + 1) s H (by omega) (by omega) I q)
    · cases (show u = Value.ref p from ru)
      refine eqBool_ref (ref_beq n rv) ?_
      refine wpAny_mono (h pins s σ H _ _ _ _ _ (inv_in1 I) ru rv q) ?_ fun _ _ e => e
      rintro t s' ⟨tv, H', I', rt, c, rfl, q'⟩
      cases (show t = Value.bool c from rt)
      refine ⟨c, rfl, ?_⟩
      cases c
      · rw [if_neg (by decide)] at q' ⊢
        exact ⟨has (inv_out1 I') q'.1, H', inv_out1 I', q'.2⟩
      · rw [if_pos rfl] at q' ⊢
        exact ih (i + 1) s' H' (by omega) (by omega) (inv_out1 I') q'
theorem op_eqLWO (b0 : Bool) {r : R2} (h : OpR (in1X X) (compareOp .Eq) r) (hu : X.A.units < cLine) : OpR X (compareOp (if b0 = true then .Eq else .NotEq)) (rEqLW b0 r) := by
  intro pins s σ H x y v u Q I rx ry q
  obtain ⟨a, b, xs, ys, rfl, rfl, hl, q⟩ := q
  cases (show v = Value.ref a from rx)
  cases (show u = Value.ref b from ry)
  refine list_cmpO b0 a b xs.length hu ?_
  refine (stepsw_of h hl xs.length 0 s H (by omega) (by omega) I (by simpa using q)).mono ?_
  rintro c s' ⟨H', I', q'⟩
  exact ⟨.bl (c == b0), H', I', rfl, q'⟩
theorem op_eqLW {r : R2} (h : OpR (in1X X) (compareOp .Eq) r) (hu : X.A.units < cLine) : OpR X (compareOp .Eq) (rEqLW true r) := op_eqLWO true h hu
theorem op_neLW {r : R2} (h : OpR (in1X X) (compareOp .Eq) r) (hu : X.A.units < cLine) : OpR X (compareOp .NotEq) (rEqLW false r) := op_eqLWO false h hu
end
end G
namespace G
open PySem PySem.Spec PySem.Calls PyProof.Rows L2
/-! ### a text of the class; rules for blocks (K told) -/
def conSB (x m : Str) (i : Str) : ExB := fun K => (match PySem.W.findIn K (.ref (He.ga K x)) m with
  | some (some (.str j t)) => decide (i = j) && He.eqO (PySem.W.specialIn K (.str j t) "__get__") (some none)
  | _ => false) && !PySem.W.copiedNames.contains m
theorem conSB_ok {K : PySem.W.Frag} {x m i : Str} (h : conSB x m i K = true) : ∃ u, Con K (He.ga K x) m (.str i) u := by
  obtain ⟨h1, h2⟩ := He.ba h
  split at h1
  · rename_i j t e
    obtain ⟨h3, h4⟩ := He.ba h1
    have := of_decide_eq_true h3
    subst this
    exact ⟨.str i t, e, ⟨t, rfl⟩, He.eqO_ok h4, by simpa using h2⟩
  · cases h1
section
variable {X : Cx} {CX : CXT} {k : Nat} {f g C : Addr} {fd : FuncData} {ps : List Str} {sp : Sp} {dvs : List V} {ds : List Value} {E : XK} {x m : Str} {p pos apos : Pos} {e o : Expr} {es : List Expr} {ta : TE} {t : TA} {pl : Sem Bool} {K : PySem.W.Frag}
theorem pe_methPK (e0 : X.K = K) (he : PE X o ta) (F : FnG X.prog X.w K X.mg X.base CX k f fd ps sp) (hr : RoomG k X.A) (hb : Binds K fd ps ds) (hd : Vals dvs ds) (hx : Passes CX X E) (ha : PA X (e :: es) t)
    (hst : starEach (e :: es) X.env = (false, eval e X.env) :: starEach es X.env := by rfl) (hpl : (backTo pos (starEach es X.env)).any (·.1) = false := by rfl) (ht : MethT X o m apos pos (e :: es) [] pl := by rfl) :
    PE X (.Call (.Attribute o m apos) (e :: es) [] pos) (tMethP K m f sp dvs E ta t) := by
  subst e0
  exact pe_methP he F hr hb hd hx ha hst hpl ht
theorem pe_methP0K (e0 : X.K = K) (he : PE X o ta) (F : FnG X.prog X.w K X.mg X.base CX k f fd ps sp) (hr : RoomG k X.A) (hb : Binds K fd ps ds) (hd : Vals dvs ds) (hx : Passes CX X E)
    (ht : MethT X o m apos pos [] [] pl := by rfl) : PE X (.Call (.Attribute o m apos) [] [] pos) (tMethP K m f sp dvs E ta tNil) := by
  subst e0
  exact pe_methP0 he F hr hb hd hx ht
end
/-! ### generator defs -/
section
variable {P : Program} {w : World} {K : PySem.W.Frag} {mg : Str → Option Value} {base : Heap} {k : Nat} {f : Addr} {name qual : Str} {params : Arguments} {body : List Stmt} {scope : Scope} {dvs : List V} {kvs : List (Str × V)} {fd : FuncData} {N ps : List Str} {sp : SpG}
/-- a generator def, by its body -/
theorem gok_of (F : L2.FunD K name qual params body scope dvs kvs f fd) (S : GScope N ps scope) (len : ∀ vs H Q E, sp vs H Q E → vs.length = ps.length)
    (hbody : ∀ (cdv : Value) (A : Around) (outer : List Env) (s : Shared) (H : Hp) (vs : List V) (Q : List V → Hp → Prop) (E : XK) (pn : List (Addr × Obj)), Room k (A.deeper (envOfC qual scope s.heap.objs.size f cdv)) → sp vs H Q E →
      ∃ t, GSs (gcxOf P w K mg base N qual scope f cdv A outer s H E pn) body t ∧ t { nx := fun ys _ H' => Q ys H', rt := fun ys v H' => v = .non ∧ Q ys H' } [] (start N vs) H) :
    GFn P w K mg base (k + 1) f fd ps sp := by
  obtain ⟨oc, od, dV, kV, doc, pm, an, cdv, ct, osl, rfl, lk, hcd, _, _⟩ := F.ex
  exact gfn_of lk hcd S len fun A outer s H vs Q E pn hr h => hbody cdv A outer s H vs Q E pn hr h
end
/-- o.m(..) of a generator method, o's class told at the walk -/
def tMethGP (K : PySem.W.Frag) (m : Str) (f : Addr) (sp : SpG) (dvs : List V) (E : XK) (ta : TE) (t : TA) : TGen := fun σ H cont => ta σ H fun x H1 => RecvP K m f x H1 (t σ H1 fun vs H2 => sp (x :: (vs ++ dvs)) H2 cont E)
section
variable {X : Cx} {k : Nat} {f : Addr} {fd : FuncData} {ps : List Str} {sp : SpG} {dvs : List V} {ds : List Value} {E : XK} {m : Str} {pos' apos : Pos} {o : Expr} {ta : TE}
theorem pgen_methP0 {pl : Sem Bool} (he : PE X o ta) (F : GFn X.prog X.w X.K X.mg X.base k f fd ps sp) (hr : Room k X.A) (hb : Binds X.K fd ps ds) (hd : Vals dvs ds)
    (ht : eval (.Call (.Attribute o m apos) [] [] pos') X.env = (do
      let ov ← eval o X.env
      standAt apos.atName
      let (f, first) ← holding [ov] (getMethod ov m pl)
      callWith pos' f first (backTo pos' (starEach [] X.env)) (backToKw pos' (keywordEach [] X.env))) := by rfl) :
    PGen X k (.Call (.Attribute o m apos) [] [] pos') (tMethGP X.K m f sp dvs E ta tNil) E := by
  refine ⟨fun pins s σ H cont I h => ?_⟩
  refine PySem.W.methodCall_KW (pl := pl) (thn (he.run pins s σ H _ I h) fun u s1 ⟨x, H1, I1, rx, a, C, dx, fs, ex, ea, c, hm, l, q⟩ => ?_) ht
  subst ex
  obtain rfl : u = Value.ref a := rx
  refine getmeth_ok I1 ea c hm l ?_
  exact PySem.W.callWith_K0 (first := [.ref a]) I1.kIn hm.kp (run_gfn (us := [.ref a]) (vs := [.ref a]) F hr hb hd I1 (.cons rfl .nil) q)
end
section
variable {K : PySem.W.Frag} {m : Str} {f p : Addr} {x : V} {H : Hp} {sp : SpG} {E : XK} {ta : TE} {tl : TA} {σ : L2.St} {cont : List V → Hp → Prop} {Q : VK} {tg : TGen}
theorem st_methGP (q : ta σ H fun x H1 => RecvP K m f x H1 (tl σ H1 fun vs H2 => sp (x :: vs) H2 cont E)) : tMethGP K m f sp [] E ta tl σ H cont := by
  unfold tMethGP
  simp only [List.append_nil]
  exact q
def LstG (out : List V) (H2 : Hp) (Q : VK) : Prop := ∀ p, H2 p = none → Q (.ref p) (upd H2 p (.lst out))
theorem st_listG (q : tg σ H fun out H2 => LstG out H2 Q) : tListG tg σ H Q := q
theorem lstG {out : List V} (q : ∀ p H3, H p = none → Kp H H3 → H3 p = some (.lst out) → Q (.ref p) H3) : LstG out H Q := fun p hp => q p _ hp (Kp.new hp) upd_same
end
theorem passX0 {X : Cx} : Passes (L2.CX X.prog X.w) X E0 := fun pins σ H s e s' I h => by
  obtain ⟨_, _, _, _, _, _, _, _, _, _, _, _, w⟩ := h
  exact w.elim
/-! ### [e for x in xs for y in ys] -/
def Lc2K (J : It) (g : TG) (tt : TT) (wi1 : TI) (g1 : TG) (tt1 : TT) (te : TE) (vs vs1 : List Nat) (σ : L2.St) (H1 : Hp) (Q : VK) : Prop := ∀ D, H1 D = none → ∃ W : Nat → Nat → Hp → Prop, (∃ m, W 0 m (upd H1 D (.lst []))) ∧ ∀ i m H, W i m H →
  (J.stop i H ∧ Q (.ref D) H) ∨ (J.go i H ∧ ∃ Nx : Hp → Prop, (∀ H', Nx H' → ∃ m', m' < m ∧ W (i + 1) m' H') ∧ ∀ x H', J.yld i H x H' → g x (wipe σ vs) H' fun σ2 H2 => wipe σ2 vs = wipe σ vs ∧ tt σ2 H2 fun b H3 =>
    if b = true then wi1 σ2 H3 fun J1 H4 => ∃ W1 : Nat → Nat → Hp → Prop, (∃ m, W1 0 m H4) ∧ ∀ j k H, W1 j k H →
      (J1.stop j H ∧ Nx H) ∨ (J1.go j H ∧ ∃ Nx1 : Hp → Prop, (∀ H', Nx1 H' → ∃ k', k' < k ∧ W1 (j + 1) k' H') ∧ ∀ x H', J1.yld j H x H' → g1 x (wipe σ2 vs1) H' fun σ3 H5 => wipe σ3 vs1 = wipe σ2 vs1 ∧ tt1 σ3 H5 fun b H6 =>
        if b = true then te σ3 H6 fun y H7 => ∃ acc, H7 D = some (.lst acc) ∧ acc.length < sizeLine ∧ Nx1 (upd H7 D (.lst (acc ++ [y]))) else Nx1 H6)
    else Nx H3)
theorem st_lc2 {wi : TI} {g : TG} {tt : TT} {wi1 : TI} {g1 : TG} {tt1 : TT} {te : TE} {vs vs1 : List Nat} {σ : L2.St} {H : Hp} {Q : VK} (q : wi σ H fun J H1 => Lc2K J g tt wi1 g1 tt1 te vs vs1 σ H1 Q) : tLc2 wi g tt wi1 g1 tt1 te vs vs1 σ H Q := q
theorem lc2_map {K : PySem.W.Frag} {a b : Addr} {xs ys : List V} {j j1 : Nat} {wi1 : TI} {te : TE} {vs vs1 : List Nat} {σ σ0 : L2.St} {H1 : Hp} {Q : VK} (f : V → V → V) (ha : H1 a = some (.lst xs)) (hb : H1 b = some (.lst ys)) (e : wipe σ vs = σ0)
    (e2 : ∀ x, wipe (σ0.set j (some x)) vs = σ0) (e3 : ∀ x, wipe (σ0.set j (some x)) vs1 = σ0.set j (some x)) (e4 : ∀ x y, wipe ((σ0.set j (some x)).set j1 (some y)) vs1 = σ0.set j (some x)) (lz : xs.length ≤ 30) (ly : ys.length ≤ 30)
    (hw : ∀ (x : V) (H' : Hp) (R : It → Hp → Prop), R (Itl K b) H' → wi1 (σ0.set j (some x)) H' R)
    (hs : ∀ (x y : V) (H' : Hp) (R : VK), x ∈ xs → y ∈ ys → R (f x y) H' → te ((σ0.set j (some x)).set j1 (some y)) H' R)
    (hd : ∀ D H', H1 D = none → Kp H1 H' → H' D = some (.lst (xs.flatMap fun x => ys.map (f x))) → Q (.ref D) H') : Lc2K (Itl K a) (gName j) tYes wi1 (gName j1) tYes te vs vs1 σ H1 Q := by
  subst e
  intro D hD
  have stay : ∀ {H' : Hp} {o : HO}, H' D = some (.lst []) ∨ True → True := fun _ => trivial
  refine ⟨fun i m H => m = xs.length - i ∧ i ≤ xs.length ∧ Kp H1 H ∧ H D = some (.lst ((xs.take i).flatMap fun x => ys.map (f x))), ⟨xs.length, by simp, Nat.zero_le _, Kp.new hD, by rw [upd_same]; simp⟩, ?_⟩
  rintro i m H ⟨rfl, hi, k, eD⟩
  have q : SqL K H a xs := .of (k _ _ ha)
  by_cases hlt : i < xs.length
  · refine .inr ⟨⟨xs, xs[i], q, by simp [hlt]⟩, fun H' => Kp H1 H' ∧ H' D = some (.lst ((xs.take (i + 1)).flatMap fun x => ys.map (f x))), fun H' ⟨k', e'⟩ => ⟨xs.length - (i + 1), by omega, rfl, hlt, k', e'⟩, fun x H' y => ?_⟩
    obtain ⟨rfl, y⟩ := y
    have hx := y xs q
    have hxm : x ∈ xs := List.mem_of_getElem? hx
    refine ⟨e2 x, ?_⟩
    simp only [tYes, if_true]
    refine hw x _ _ ?_
    have len : ((xs.take i).flatMap fun x => ys.map (f x)).length ≤ 900 := by
      have : ∀ l : List V, (l.flatMap fun x => ys.map (f x)).length = l.length * ys.length := by
        intro l
        induction l with
        | nil => simp
        | cons z l ih => rw [List.flatMap_cons, List.length_append, List.length_map, ih, List.length_cons, Nat.succ_mul]; omega
      rw [this, List.length_take]
      exact Nat.le_trans (Nat.mul_le_mul (Nat.le_trans (Nat.min_le_right ..) lz) ly) (by decide)
    refine ⟨fun l m H' => m = ys.length - l ∧ l ≤ ys.length ∧ Kp H1 H' ∧ H' D = some (.lst (((xs.take i).flatMap fun x => ys.map (f x)) ++ (ys.take l).map (f x))), ⟨ys.length, by simp, Nat.zero_le _, k, by simpa using eD⟩, ?_⟩
    rintro l m H' ⟨rfl, hl, k', e'⟩
    have q' : SqL K H' b ys := .of (k' _ _ hb)
    by_cases hlt' : l < ys.length
    · refine .inr ⟨⟨ys, ys[l], q', by simp [hlt']⟩, fun H'' => Kp H1 H'' ∧ H'' D = some (.lst (((xs.take i).flatMap fun x => ys.map (f x)) ++ (ys.take (l + 1)).map (f x))), fun H'' ⟨k'', e''⟩ => ⟨ys.length - (l + 1), by omega, rfl, hlt', k'', e''⟩, fun z H'' y' => ?_⟩
      obtain ⟨rfl, y'⟩ := y'
      have hz := y' ys q'
      have hzm : z ∈ ys := List.mem_of_getElem? hz
      rw [e3 x]
      refine ⟨e4 x z, ?_⟩
      simp only [tYes, if_true]
      refine hs x z _ _ hxm hzm ⟨_, e', ?_, Kp.md_new k' (Md.upd e') hD, ?_⟩
      · rw [sizeLine_eq, List.length_append, List.length_map, List.length_take]
        omega
      · rw [upd_same, List.take_add_one, hz, List.map_append, List.append_assoc]
        rfl
    · have e0 : l = ys.length := by omega
      subst e0
      rw [List.take_length] at e'
      refine .inl ⟨⟨ys, q', Nat.le_refl _⟩, k', ?_⟩
      rw [e', List.take_add_one, hx]
      simp
  · have e0 : i = xs.length := by omega
    subst e0
    rw [List.take_length] at eD
    exact .inl ⟨⟨xs, q, Nat.le_refl _⟩, hd D H hD k eD⟩
end G
namespace G
open PySem PySem.Spec PySem.Calls PyProof.Rows L2
/-! ### x.f in a block (K told) -/
section
variable {X : Cx} {K : PySem.W.Frag} {e : Expr} {f : Str} {pos : Pos} {ta : TE}
theorem pe_fldK (e0 : X.K = K) (he : PE X e ta) (hb : attributeBase e f X.env (eval e X.env) = eval e X.env) : PE X (.Attribute e f pos) (tFld K ta f) := by
  subst e0
  exact pe_fld he hb
theorem pi_listK {tg l : Expr} {tl : TE} (e0 : X.K = K) (hl : PE X l tl) : PI X tg l (iList K tl) := by
  subst e0
  exact pi_list hl
end
theorem lc2_mapK {K : PySem.W.Frag} {a b : Addr} {xs ys : List V} {j j1 : Nat} {wi1 : TI} {te : TE} {vs vs1 : List Nat} {σ σ0 : L2.St} {H1 : Hp} {Q : VK} (f : V → V → V) (ha : H1 a = some (.lst xs)) (hb : H1 b = some (.lst ys)) (e : wipe σ vs = σ0)
    (e2 : ∀ x, wipe (σ0.set j (some x)) vs = σ0) (e3 : ∀ x, wipe (σ0.set j (some x)) vs1 = σ0.set j (some x)) (e4 : ∀ x y, wipe ((σ0.set j (some x)).set j1 (some y)) vs1 = σ0.set j (some x)) (lz : xs.length ≤ 30) (ly : ys.length ≤ 30)
    (hw : ∀ (x : V) (H' : Hp) (R : It → Hp → Prop), Kp H1 H' → R (Itl K b) H' → wi1 (σ0.set j (some x)) H' R)
    (hs : ∀ (x y : V) (H' : Hp) (R : VK), x ∈ xs → y ∈ ys → R (f x y) H' → te ((σ0.set j (some x)).set j1 (some y)) H' R)
    (hd : ∀ D H', H1 D = none → Kp H1 H' → H' D = some (.lst (xs.flatMap fun x => ys.map (f x))) → Q (.ref D) H') : Lc2K (Itl K a) (gName j) tYes wi1 (gName j1) tYes te vs vs1 σ H1 Q := by
  subst e
  intro D hD
  have stay : ∀ {H' : Hp} {o : HO}, H' D = some (.lst []) ∨ True → True := fun _ => trivial
  refine ⟨fun i m H => m = xs.length - i ∧ i ≤ xs.length ∧ Kp H1 H ∧ H D = some (.lst ((xs.take i).flatMap fun x => ys.map (f x))), ⟨xs.length, by simp, Nat.zero_le _, Kp.new hD, by rw [upd_same]; simp⟩, ?_⟩
  rintro i m H ⟨rfl, hi, k, eD⟩
  have q : SqL K H a xs := .of (k _ _ ha)
  by_cases hlt : i < xs.length
  · refine .inr ⟨⟨xs, xs[i], q, by simp [hlt]⟩, fun H' => Kp H1 H' ∧ H' D = some (.lst ((xs.take (i + 1)).flatMap fun x => ys.map (f x))), fun H' ⟨k', e'⟩ => ⟨xs.length - (i + 1), by omega, rfl, hlt, k', e'⟩, fun x H' y => ?_⟩
    obtain ⟨rfl, y⟩ := y
    have hx := y xs q
    have hxm : x ∈ xs := List.mem_of_getElem? hx
    refine ⟨e2 x, ?_⟩
    simp only [tYes, if_true]
    refine hw x _ _ k ?_
    have len : ((xs.take i).flatMap fun x => ys.map (f x)).length ≤ 900 := by
      have : ∀ l : List V, (l.flatMap fun x => ys.map (f x)).length = l.length * ys.length := by
        intro l
        induction l with
        | nil => simp
        | cons z l ih => rw [List.flatMap_cons, List.length_append, List.length_map, ih, List.length_cons, Nat.succ_mul]; omega
      rw [this, List.length_take]
      exact Nat.le_trans (Nat.mul_le_mul (Nat.le_trans (Nat.min_le_right ..) lz) ly) (by decide)
    refine ⟨fun l m H' => m = ys.length - l ∧ l ≤ ys.length ∧ Kp H1 H' ∧ H' D = some (.lst (((xs.take i).flatMap fun x => ys.map (f x)) ++ (ys.take l).map (f x))), ⟨ys.length, by simp, Nat.zero_le _, k, by simpa using eD⟩, ?_⟩
    rintro l m H' ⟨rfl, hl, k', e'⟩
    have q' : SqL K H' b ys := .of (k' _ _ hb)
    by_cases hlt' : l < ys.length
    · refine .inr ⟨⟨ys, ys[l], q', by simp [hlt']⟩, fun H'' => Kp H1 H'' ∧ H'' D = some (.lst (((xs.take i).flatMap fun x => ys.map (f x)) ++ (ys.take (l + 1)).map (f x))), fun H'' ⟨k'', e''⟩ => ⟨ys.length - (l + 1), by omega, rfl, hlt', k'', e''⟩, fun z H'' y' => ?_⟩
      obtain ⟨rfl, y'⟩ := y'
      have hz := y' ys q'
      have hzm : z ∈ ys := List.mem_of_getElem? hz
      rw [e3 x]
      refine ⟨e4 x z, ?_⟩
      simp only [tYes, if_true]
      refine hs x z _ _ hxm hzm ⟨_, e', ?_, Kp.md_new k' (Md.upd e') hD, ?_⟩
      · rw [sizeLine_eq, List.length_append, List.length_map, List.length_take]
        omega
      · rw [upd_same, List.take_add_one, hz, List.map_append, List.append_assoc]
        rfl
    · have e0 : l = ys.length := by omega
      subst e0
      rw [List.take_length] at e'
      refine .inl ⟨⟨ys, q', Nat.le_refl _⟩, k', ?_⟩
      rw [e', List.take_add_one, hx]
      simp
  · have e0 : i = xs.length := by omega
    subst e0
    rw [List.take_length] at eD
    exact .inl ⟨⟨xs, q, Nat.le_refl _⟩, hd D H hD k eD⟩
end G

/-! ### own lines (walk_at is the kit's own word with a key: these keys are ours) -/
-- a sequence in a later heap, by what is said of it as a sequence
local macro_rules | `(tactic| walk_at "hq") => `(tactic| first
  | assumption
  | (refine G.SqT.kp (by assumption) ?_; walk_at "hq")
  | (refine G.SqT.md (by assumption) ?_; walk_at "hq")
  | (refine G.SqL.kp (by assumption) ?_; walk_at "hq"))
-- a tracked object in a later heap
local macro_rules | `(tactic| walk_at "hp") => `(tactic| first
  | assumption
  | (refine G.SqT.kp (by assumption) ?_; walk_at "hq")
  | (refine G.SqT.md (by assumption) ?_; walk_at "hq")
  | (refine G.SqL.kp (by assumption) ?_; walk_at "hq")
  | (refine G.TabP.kp (by assumption) ?_; walk_at "hp")
  | (refine G.TabP.md (by assumption) ?_; walk_at "hp")
  | (refine G.Kp.at (by assumption) ?_; walk_at "hp")
  | (refine G.Md.tup (by assumption) ?_; walk_at "hp")
  | (refine G.Md.ins (by assumption) ?_; walk_at "hp")
  | (refine G.Md.frz (by assumption) ?_; walk_at "hp")
  | (refine G.Md.lst (by assumption) ?_ (by first | assumption | (apply Ne.symm; assumption)); walk_at "hp")
  | (refine L2.SqT.of ?_; walk_at "hp")
  | (refine L2.SqL.of ?_; walk_at "hp")
  | (refine G.MD.ins (by assumption) ?_; walk_at "hp")
  | (refine G.MD.tup (by assumption) ?_; walk_at "hp")
  | (refine G.MD.lst (by assumption) ?_; walk_at "hp")
  | (refine G.Md.kp (by assumption) _ _ (by assumption) ?_; walk_at "hp")
  | (refine G.MD.atN (by assumption) (by assumption) ?_ ?_ <;> walk_at "hp"))
-- more rows of "hp": the claim's own
local macro_rules | `(tactic| walk_at "hpx") => `(tactic| fail "hpx")
-- a bound of an int
local macro_rules | `(tactic| walk_at "bd1") => `(tactic| first
  | assumption
  | ((with_reducible apply G.Bd.mul); walk_at "bd1"; walk_at "bd1")
  | ((with_reducible apply G.Bd.add); walk_at "bd1"; walk_at "bd1")
  | ((with_reducible apply G.Bd.sub); walk_at "bd1"; walk_at "bd1")
  | ((with_reducible apply G.Bd.neg); walk_at "bd1")
  | exact G.Bd.lit _)
local macro_rules | `(tactic| walk_at "bd") => `(tactic| ((fail_if_success (with_reducible show G.Bd _ 987654321987654321)); walk_at "bd1"))
local macro_rules | `(tactic| walk_at "bdw") => `(tactic| first | assumption | exact G.Bd.mono (by walk_at "bd") (by first | decide +kernel | omega))
-- a product's room
local macro_rules | `(tactic| walk_at "mu") => `(tactic| first
  | (exact G.mulOk (by walk_at "bd") (by walk_at "bd") (by first | decide +kernel | omega))
  | exact G.mulOkL (by omega)
  | exact G.mulOkR (by omega))
local macro_rules | `(tactic| walk_at "gx") => `(tactic| fail "gx")
-- one step of a reading
local macro_rules | `(tactic| walk_at "g") => `(tactic| first
  | walk_at "gx"
  | ((with_reducible refine G.st_var (v := ?z0) ?h ?_); (case h => rfl))
  | with_reducible refine G.st_c ?_
  | with_reducible refine G.st_op ?_
  | with_reducible refine G.st_un ?_
  | with_reducible refine G.st_seq ?_
  | with_reducible refine G.st_asg ?_
  | ((with_reducible refine G.st_aug (x := ?z0) ?h ?_); (case h => rfl))
  | ((with_reducible refine G.st_gname (σ' := ?z0) ?e ?_); (case e => (simp only [List.set_cons_zero, List.set_cons_succ]; rfl)))
  | with_reducible refine G.st_test ?_
  | with_reducible refine G.st_B ?_
  | with_reducible refine G.st_exbl ?_
  | with_reducible refine G.st_exblP ?_
  | with_reducible refine G.st_iteT ?_
  | with_reducible refine G.st_iteF ?_
  | with_reducible refine G.st_and ?_
  | with_reducible refine G.st_or ?_
  | with_reducible refine G.st_not ?_
  | with_reducible refine G.st_andV ?_
  | with_reducible refine G.st_orV ?_
  | with_reducible refine G.st_notV ?_
  | with_reducible refine G.st_ifE ?_
  | with_reducible refine G.st_ifS ?_
  | with_reducible refine G.st_nil ?_
  | with_reducible refine G.st_cons ?_
  | with_reducible refine G.st_tup ?_
  | with_reducible refine G.st_lst ?_
  | ((with_reducible refine G.st_tupK ?h ?_); (case h => (simp only [List.length_cons, List.length_nil]; omega)); intro _ _ _ _ _)
  | ((with_reducible refine G.st_lstK ?h ?_); (case h => (simp only [List.length_cons, List.length_nil]; omega)); intro _ _ _ _ _)
  | with_reducible refine G.st_call ?_
  | with_reducible refine G.st_sm ?_
  | with_reducible refine G.st_cb ?_
  | with_reducible refine G.st_meth ?_
  | with_reducible refine G.st_methK ?_
  | with_reducible refine G.st_fld ?_
  | with_reducible refine G.st_chain ?_
  | with_reducible refine G.add_ii ?_
  | with_reducible refine G.sub_ii ?_
  | ((with_reducible refine G.mul_ii ?h ?_); (case h => walk_at "mu"))
  | ((with_reducible refine G.div_ii ?h0 (by walk_at "bd") (by first | decide +kernel | omega) ?_); (case h0 => omega))
  | ((with_reducible refine G.mod_ii ?h0 ?_); (case h0 => omega))
  | ((with_reducible refine G.pow_ii (z := ?z0) ?h ?e ?_); (case h => (refine ⟨?_, ?_, ?_⟩ <;> omega)); (case e => ((simp only [Int.reduceToNat, Int.reducePow]); first | done | rfl)))
  | with_reducible refine G.neg_i ?_
  | with_reducible refine G.lt_ii ?_
  | with_reducible refine G.le_ii ?_
  | with_reducible refine G.gt_ii ?_
  | with_reducible refine G.ge_ii ?_
  | with_reducible refine G.eq_ii ?_
  | with_reducible refine G.eq_ss ?_
  | with_reducible refine G.eq_bb ?_
  | with_reducible refine G.ne_ii ?_
  | with_reducible refine G.ne_ss ?_
  | with_reducible refine G.ne_bb ?_
  | ((with_reducible refine G.eq_t2 (i0 := ?z0) (i1 := ?z1) (j0 := ?z2) (j1 := ?z3) ?h1 ?h2 ?_); (case h1 => walk_at "hp"); (case h2 => walk_at "hp"))
  | ((with_reducible refine G.ne_t2 (i0 := ?z0) (i1 := ?z1) (j0 := ?z2) (j1 := ?z3) ?h1 ?h2 ?_); (case h1 => walk_at "hp"); (case h2 => walk_at "hp"))
  | ((with_reducible refine G.in_s2 (s1 := ?z0) (s2 := ?z1) ?h1 ?_); (case h1 => walk_at "hp"))
  | ((with_reducible refine G.add_tt (xs := ?z0) (ys := ?z1) (zs := ?z2) ?h1 ?h2 ?n1 ?n2 ?l ?e ?_); (case h1 => walk_at "hp"); (case h2 => walk_at "hp"); (case n1 => (intro hz; cases hz)); (case n2 => (intro hz; cases hz)); (case l => (simp only [List.length_cons, List.length_nil]; omega)); (case e => (simp only [List.cons_append, List.nil_append]; rfl)); intro _ _ _ _ _)
  | with_reducible refine G.isN_n ?_
  | with_reducible refine G.notN_n ?_
  | with_reducible refine G.abs_i ?_
  | with_reducible refine G.int_i ?_
  | with_reducible refine G.int_b ?_
  | with_reducible refine G.bool_i ?_
  | with_reducible refine G.bool_b ?_
  | ((with_reducible refine G.len_l (xs := ?z0) ?h ?_); (case h => walk_at "hp"))
  | ((with_reducible refine G.len_t (xs := ?z0) ?h ?_); (case h => walk_at "hp"))
  | ((with_reducible refine G.list_l (xs := ?z0) ?h ?_); (case h => walk_at "hp"); intro _ _ _ _ _)
  | ((with_reducible refine G.list_t (xs := ?z0) ?h ?_); (case h => walk_at "hp"); intro _ _ _ _ _)
  | ((with_reducible refine' G.isi_ty ?ty ?h ?_); (case ty => first | exact .base (.int _) | exact .base (.str _) | exact .base (.bl _) | exact .base .non); (case h => first | exact L2.kit_ty (r := true) (by decide +kernel) | exact L2.kit_ty (r := false) (by decide +kernel) | assumption))
  | ((with_reducible refine G.ix_t (xs := ?z0) (v := ?z1) ?h ?e ?_); (case h => walk_at "hp"); (case e => rfl))
  | ((with_reducible refine G.ix_l (xs := ?z0) (v := ?z1) ?h ?e ?_); (case h => walk_at "hp"); (case e => rfl))
  | with_reducible refine G.st_sl ?_
  | with_reducible refine G.st_noPart ?_
  | with_reducible refine G.st_part ?_
  | with_reducible refine G.st_exint ?_
  | with_reducible refine G.st_exintP ?_
  | ((with_reducible refine G.sl_l (xs := ?z0) ?h ?_); (case h => walk_at "hp"); intro _ _ _ _ _)
  | with_reducible refine G.st_next ?_
  | with_reducible refine G.st_brk ?_
  | with_reducible refine G.st_cont ?_
  | with_reducible refine G.st_drop ?_
  | with_reducible refine G.st_ret ?_
  | with_reducible refine G.st_retN ?_
  | with_reducible refine G.st_par ?_
  | with_reducible refine G.st_par3 ?_
  | ((with_reducible refine G.st_par3K (σ' := ?z0) ?e ?_); (case e => (simp only [List.set_cons_zero, List.set_cons_succ]; rfl)))
  | ((with_reducible refine G.st_lamG ?h ?_); (case h => walk_at "hp"); intro _ _)
  | ((with_reducible refine G.st_parK (σ' := ?z0) ?e ?_); (case e => (simp only [List.set_cons_zero, List.set_cons_succ]; rfl)))
  | ((with_reducible refine G.st_gtup (xs := ?z0) ?h ?l ?_); (case h => walk_at "hp"); (case l => rfl))
  | ((with_reducible refine G.st_glst (xs := ?z0) ?h ?l ?_); (case h => walk_at "hp"); (case l => rfl))
  | with_reducible refine G.st_gcons ?_
  | with_reducible refine G.st_gnil ?_
  | with_reducible refine G.st_gsub ?_
  | ((with_reducible refine G.st_setL (xs := ?z0) (m := ?z1) (ys := ?z2) ?h ?l ?e ?_); (case h => walk_at "hp"); (case l => rfl); (case e => (simp only [Int.reduceToNat, List.set_cons_zero, List.set_cons_succ]; rfl)); intro _ _ _)
  | with_reducible refine G.st_setfld ?_
  | with_reducible refine G.st_bm ?_
  | ((with_reducible refine G.bm_list (xs := ?z0) ?h ?_); (case h => walk_at "hp"))
  | ((with_reducible refine G.append_l (xs := ?z0) ?h ?l ?_); (case h => walk_at "hp"); (case l => first | omega | assumption); intro _ _ _))
-- dicts
local macro_rules | `(tactic| walk_at "g") => `(tactic| first
  | ((with_reducible refine G.st_disp ?_); intro _ _ _ _ _)
  | with_reducible refine G.st_pairsN ?_
  | with_reducible refine G.st_pairsC ?_
  | ((with_reducible refine G.st_disp3 ?h ?_); (case h => walk_at "hp"); intro _ _ _)
  | with_reducible refine G.st_dget2 ?_
  | ((with_reducible refine G.st_dgK (kvs := ?z0) ?h ?_); (case h => walk_at "hp"))
  | ((with_reducible refine G.st_dgSs (kvs := ?z0) (v := ?z1) ?h ?e ?_); (case h => walk_at "hp"); (case e => rfl))
  | ((with_reducible refine G.st_dgSn (kvs := ?z0) ?h ?e ?_); (case h => walk_at "hp"); (case e => rfl))
  | ((with_reducible refine G.eq_l2b (i0 := ?z0) (i1 := ?z1) (j0 := ?z2) (j1 := ?z3) ?h1 ?h2 ?_); (case h1 => walk_at "hp"); (case h2 => walk_at "hp")))
-- a text's length
local macro_rules | `(tactic| walk_at "lb1") => `(tactic| first
  | assumption
  | ((with_reducible apply G.LB.app); walk_at "lb1"; walk_at "lb1")
  | exact G.LB.int (by walk_at "bd") (by first | decide +kernel | omega)
  | exact G.LB.lit _)
local macro_rules | `(tactic| walk_at "lb") => `(tactic| ((fail_if_success (with_reducible show G.LB _ ("zqx" : Str))); walk_at "lb1"))
-- texts, comprehensions, one rule or the other
local macro_rules | `(tactic| walk_at "g") => `(tactic| first
  | with_reducible refine G.st_jsC ?_
  | ((with_reducible refine G.st_jsK ?h ?_); (case h => exact G.LB.fits (by walk_at "lb") (by first | decide +kernel | omega)))
  | with_reducible refine G.st_jsN ?_
  | with_reducible refine G.st_fmt ?_
  | with_reducible refine G.fmt_i (by walk_at "bd") (by first | decide +kernel | omega) ?_
  | with_reducible refine G.fmt_s ?_ ?_
  | with_reducible refine G.str_i (by walk_at "bd") (by first | decide +kernel | omega) ?_
  | ((with_reducible refine G.add_ss ?h ?_); (case h => exact G.LB.two (by walk_at "lb") (by walk_at "lb") (by first | decide +kernel | omega)))
  | ((with_reducible refine' G.repr_t2 (i := ?z0) (j := ?z1) ?h ?b1 ?l1 ?b2 ?l2 ?_); (case h => walk_at "hp"); (case b1 => walk_at "bd"); (case b2 => walk_at "bd"); (case l1 => first | decide +kernel | omega); (case l2 => first | decide +kernel | omega))
  | with_reducible refine G.st_lc ?_
  | ((with_reducible refine G.st_app (acc := ?z0) ?h ?l ?_); (case h => walk_at "hp"); (case l => first | assumption | omega); intro _ _ _)
  | ((with_reducible refine G.st_wip ?h ?_); (case h => (simp only [List.map_cons, List.map_nil, L2.wipe, List.set_cons_zero, List.set_cons_succ])))
  | with_reducible refine G.st_lcT ?_
  | with_reducible refine G.st_yes ?_
  | ((with_reducible refine G.or_l ?_); walk_at "g")
  | ((with_reducible refine G.or_r ?_); walk_at "g")
  | ((with_reducible refine G.cor_l ?_); walk_at "g")
  | ((with_reducible refine G.cor_r ?_); walk_at "g")
  | ((with_reducible refine G.uor_l ?_); walk_at "g")
  | ((with_reducible refine G.uor_r ?_); walk_at "g"))
local macro_rules | `(tactic| walk_at "gl") => `(tactic| first
  | with_reducible refine G.st_whK ?_
  | with_reducible refine G.st_mk ?_
  | with_reducible refine G.st_for ?_
  | with_reducible refine G.st_iList ?_
  | ((with_reducible refine G.st_iLK (xs := ?z0) ?h ?_); (case h => walk_at "hp"))
  | with_reducible refine G.st_r1 ?_
  | with_reducible refine G.st_r2 ?_
  | ((with_reducible refine G.st_r1K ?h1 ?h2 ?_); (case h1 => omega); (case h2 => omega))
  | ((with_reducible refine G.st_r2K ?h ?_); (case h => (refine ⟨?_, ?_, ?_, ?_⟩ <;> omega))))
-- what a test says
local macro_rules | `(tactic| walk_at "gif") => `(tactic| ((with_reducible refine G.st_ite ?_ ?_) <;> (intro hc; (try simp only [decide_eq_true_eq, decide_eq_false_iff_not, Bool.not_eq_true', Bool.not_eq_false', Bool.and_eq_true, Bool.or_eq_true, Bool.and_eq_false_iff, Bool.or_eq_false_iff, Bool.not_true, Bool.not_false, bne_iff_ne, beq_iff_eq, ne_eq, not_true_eq_false, not_false_eq_true, Bool.false_eq_true, Bool.true_eq_false, reduceCtorEq] at hc); (try (exfalso; first | assumption | contradiction | omega)))))
local macro_rules | `(tactic| walk_at "start") => `(tactic| ((try dsimp only [L2.cxOf]); (with_reducible refine G.st_start (σ' := ?z0) ?e ?_); (case e => (unfold L2.start; simp only [List.map_cons, List.map_nil, List.length_cons, List.length_nil, Nat.reduceAdd, Nat.reduceSub, List.replicate, List.cons_append, List.nil_append]; rfl))))
-- as far as it goes
local macro_rules | `(tactic| walk_at "go") => `(tactic| repeat' first | walk_at "g" | walk_at "gl")
local macro_rules | `(tactic| walk_at "gob") => `(tactic| repeat' first | walk_at "g" | walk_at "gl" | walk_at "gif")
-- a way that cannot be
local macro_rules | `(tactic| walk_at "no") => `(tactic| first
  | (exfalso; omega)
  | (exfalso; simp_all; done)
  | (simp only [decide_eq_true_eq, decide_eq_false_iff_not, Bool.not_eq_true', Bool.not_eq_false', Bool.not_true, Bool.not_false] at *; exfalso; omega))
-- all is kept, over several steps; an address that was free
local macro_rules | `(tactic| walk_at "kp") => `(tactic| first | assumption | exact G.Kp.refl | ((with_reducible apply G.Kp.trans); assumption; walk_at "kp"))
local macro_rules | `(tactic| walk_at "fr") => `(tactic| first | assumption | (refine G.Kp.back (by assumption) ?_; walk_at "fr") | (refine G.Md.back (by assumption) ?_; walk_at "fr"))
-- one list changes, over several steps
local macro_rules | `(tactic| walk_at "mdf") => `(tactic| first | exact G.mdt_z | ((with_reducible apply G.mdt_k); assumption; walk_at "mdf") | ((with_reducible apply G.mdt_m); assumption; walk_at "mdf"))
local macro_rules | `(tactic| walk_at "mdt") => `(tactic| first | assumption | ((with_reducible apply G.mdt_go); assumption; walk_at "mdf") | ((with_reducible apply G.mdt_go); (apply G.mdt_s; assumption); walk_at "mdf"))
namespace Lw
open PySem PySem.Spec PyProof.Rows L2
def top (i : Nat) : Stmt := PySem.Challenge.pw_anyfifth_k39_positions_compared.main.body.getD i (.Pass ⟨0, 0, 0, 0⟩)
abbrev s_is_integer : Stmt := top 2
abbrev a_is_integer (K : PySem.W.Frag) : Addr := He.ga K "is_integer"
def d_is_integer : He5.DefA := ⟨a_is_integer, "is_integer", "is_integer", defArgs s_is_integer, defBody s_is_integer, defScope s_is_integer, [], []⟩
abbrev s_is_between : Stmt := top 3
abbrev a_is_between (K : PySem.W.Frag) : Addr := He.ga K "is_between"
def d_is_between : He5.DefA := ⟨a_is_between, "is_between", "is_between", defArgs s_is_between, defBody s_is_between, defScope s_is_between, [], []⟩
abbrev s_common_divisor : Stmt := top 18
abbrev a_common_divisor (K : PySem.W.Frag) : Addr := He.ga K "common_divisor"
def d_common_divisor : He5.DefA := ⟨a_common_divisor, "common_divisor", "common_divisor", defArgs s_common_divisor, defBody s_common_divisor, defScope s_common_divisor, [], []⟩
abbrev s_parts_of : Stmt := top 23
abbrev a_parts_of (K : PySem.W.Frag) : Addr := He.ga K "parts_of"
def d_parts_of : He5.DefA := ⟨a_parts_of, "parts_of", "parts_of", defArgs s_parts_of, defBody s_parts_of, defScope s_parts_of, [], []⟩
abbrev s_need_divisor : Stmt := top 24
abbrev a_need_divisor (K : PySem.W.Frag) : Addr := He.ga K "need_divisor"
def d_need_divisor : He5.DefA := ⟨a_need_divisor, "need_divisor", "need_divisor", defArgs s_need_divisor, defBody s_need_divisor, defScope s_need_divisor, [], []⟩
abbrev s_Ratio_init : Stmt := inClass (top 25) 0
abbrev a_Ratio_init (K : PySem.W.Frag) : Addr := He.ma K (He.ga K "Ratio") "__init__"
def d_Ratio_init : He5.DefA := ⟨a_Ratio_init, "__init__", "Ratio.__init__", defArgs s_Ratio_init, defBody s_Ratio_init, defScope s_Ratio_init, [.int 1], []⟩
abbrev s_Ratio_is_number : Stmt := inClass (top 25) 1
abbrev a_Ratio_is_number (K : PySem.W.Frag) : Addr := G.smA "Ratio" "is_number" K
def d_Ratio_is_number : He5.DefA := ⟨a_Ratio_is_number, "is_number", "Ratio.is_number", defArgs s_Ratio_is_number, defBody s_Ratio_is_number, defScope s_Ratio_is_number, [], []⟩
abbrev s_Ratio_is_fifth : Stmt := inClass (top 25) 2
abbrev a_Ratio_is_fifth (K : PySem.W.Frag) : Addr := G.smA "Ratio" "is_fifth" K
def d_Ratio_is_fifth : He5.DefA := ⟨a_Ratio_is_fifth, "is_fifth", "Ratio.is_fifth", defArgs s_Ratio_is_fifth, defBody s_Ratio_is_fifth, defScope s_Ratio_is_fifth, [], []⟩
abbrev s_is_fifth : Stmt := top 27
abbrev a_is_fifth (K : PySem.W.Frag) : Addr := He.ga K "is_fifth"
def d_is_fifth : He5.DefA := ⟨a_is_fifth, "is_fifth", "is_fifth", defArgs s_is_fifth, defBody s_is_fifth, defScope s_is_fifth, [], []⟩
abbrev s_need_fifth : Stmt := top 28
abbrev a_need_fifth (K : PySem.W.Frag) : Addr := He.ga K "need_fifth"
def d_need_fifth : He5.DefA := ⟨a_need_fifth, "need_fifth", "need_fifth", defArgs s_need_fifth, defBody s_need_fifth, defScope s_need_fifth, [], []⟩
abbrev s_key_of : Stmt := top 29
abbrev a_key_of (K : PySem.W.Frag) : Addr := He.ga K "key_of"
def d_key_of : He5.DefA := ⟨a_key_of, "key_of", "key_of", defArgs s_key_of, defBody s_key_of, defScope s_key_of, [], []⟩
abbrev s_marks_with : Stmt := top 31
abbrev a_marks_with (K : PySem.W.Frag) : Addr := He.ga K "marks_with"
def d_marks_with : He5.DefA := ⟨a_marks_with, "marks_with", "marks_with", defArgs s_marks_with, defBody s_marks_with, defScope s_marks_with, [], []⟩
abbrev s_marks_of_pair : Stmt := top 32
abbrev a_marks_of_pair (K : PySem.W.Frag) : Addr := He.ga K "marks_of_pair"
def d_marks_of_pair : He5.DefA := ⟨a_marks_of_pair, "marks_of_pair", "marks_of_pair", defArgs s_marks_of_pair, defBody s_marks_of_pair, defScope s_marks_of_pair, [], []⟩
abbrev s_marks_of_three : Stmt := top 33
abbrev a_marks_of_three (K : PySem.W.Frag) : Addr := He.ga K "marks_of_three"
def d_marks_of_three : He5.DefA := ⟨a_marks_of_three, "marks_of_three", "marks_of_three", defArgs s_marks_of_three, defBody s_marks_of_three, defScope s_marks_of_three, [], []⟩
abbrev s_need_note : Stmt := top 36
abbrev a_need_note (K : PySem.W.Frag) : Addr := He.ga K "need_note"
def d_need_note : He5.DefA := ⟨a_need_note, "need_note", "need_note", defArgs s_need_note, defBody s_need_note, defScope s_need_note, [], []⟩
abbrev s_Term_init : Stmt := inClass (top 37) 1
abbrev a_Term_init (K : PySem.W.Frag) : Addr := He.ma K (He.ga K "Term") "__init__"
def d_Term_init : He5.DefA := ⟨a_Term_init, "__init__", "Term.__init__", defArgs s_Term_init, defBody s_Term_init, defScope s_Term_init, [], []⟩
abbrev s_Term_is_moving : Stmt := inClass (top 37) 2
abbrev a_Term_is_moving (K : PySem.W.Frag) : Addr := G.prA "Term" "is_moving" K
def d_Term_is_moving : He5.DefA := ⟨a_Term_is_moving, "is_moving", "Term.is_moving", defArgs s_Term_is_moving, defBody s_Term_is_moving, defScope s_Term_is_moving, [], []⟩
abbrev s_Term_note : Stmt := inClass (top 37) 3
abbrev a_Term_note (K : PySem.W.Frag) : Addr := He.ma K (He.ga K "Term") "note"
def d_Term_note : He5.DefA := ⟨a_Term_note, "note", "Term.note", defArgs s_Term_note, defBody s_Term_note, defScope s_Term_note, [], []⟩
abbrev s_Term_eq : Stmt := inClass (top 37) 8
abbrev a_Term_eq (K : PySem.W.Frag) : Addr := He.ma K (He.ga K "Term") "__eq__"
def d_Term_eq : He5.DefA := ⟨a_Term_eq, "__eq__", "Term.__eq__", defArgs s_Term_eq, defBody s_Term_eq, defScope s_Term_eq, [], []⟩
abbrev s_need_term : Stmt := top 41
abbrev a_need_term (K : PySem.W.Frag) : Addr := He.ga K "need_term"
def d_need_term : He5.DefA := ⟨a_need_term, "need_term", "need_term", defArgs s_need_term, defBody s_need_term, defScope s_need_term, [], []⟩
abbrev s_Saying_init : Stmt := inClass (top 42) 4
abbrev a_Saying_init (K : PySem.W.Frag) : Addr := He.ma K (He.ga K "Saying") "__init__"
def d_Saying_init : He5.DefA := ⟨a_Saying_init, "__init__", "Saying.__init__", defArgs s_Saying_init, defBody s_Saying_init, defScope s_Saying_init, [], []⟩
abbrev s_Saying_deep : Stmt := inClass (top 42) 7
abbrev a_Saying_deep (K : PySem.W.Frag) : Addr := G.prA "Saying" "deep" K
def d_Saying_deep : He5.DefA := ⟨a_Saying_deep, "deep", "Saying.deep", defArgs s_Saying_deep, defBody s_Saying_deep, defScope s_Saying_deep, [], []⟩
abbrev s_Saying_call : Stmt := inClass (top 42) 8
abbrev a_Saying_call (K : PySem.W.Frag) : Addr := He.ma K (He.ga K "Saying") "__call__"
def d_Saying_call : He5.DefA := ⟨a_Saying_call, "__call__", "Saying.__call__", defArgs s_Saying_call, defBody s_Saying_call, defScope s_Saying_call, [], []⟩
abbrev s_Saying_eq : Stmt := inClass (top 42) 12
abbrev a_Saying_eq (K : PySem.W.Frag) : Addr := He.ma K (He.ga K "Saying") "__eq__"
def d_Saying_eq : He5.DefA := ⟨a_Saying_eq, "__eq__", "Saying.__eq__", defArgs s_Saying_eq, defBody s_Saying_eq, defScope s_Saying_eq, [], []⟩
abbrev s_Paired_arguments : Stmt := inClass (top 44) 0
abbrev a_Paired_arguments (K : PySem.W.Frag) : Addr := He.ma K (He.ga K "Paired") "arguments"
def d_Paired_arguments : He5.DefA := ⟨a_Paired_arguments, "arguments", "Paired.arguments", defArgs s_Paired_arguments, defBody s_Paired_arguments, defScope s_Paired_arguments, [], []⟩
abbrev s_Comparing_parts : Stmt := inClass (top 45) 0
abbrev a_Comparing_parts (K : PySem.W.Frag) : Addr := He.ma K (He.ga K "Comparing") "parts"
def d_Comparing_parts : He5.DefA := ⟨a_Comparing_parts, "parts", "Comparing.parts", defArgs s_Comparing_parts, defBody s_Comparing_parts, defScope s_Comparing_parts, [], []⟩
abbrev s_Comparing_keys_of : Stmt := inClass (top 45) 1
abbrev a_Comparing_keys_of (K : PySem.W.Frag) : Addr := He.ma K (He.ga K "Comparing") "keys_of"
def d_Comparing_keys_of : He5.DefA := ⟨a_Comparing_keys_of, "keys_of", "Comparing.keys_of", defArgs s_Comparing_keys_of, defBody s_Comparing_keys_of, defScope s_Comparing_keys_of, [], []⟩
abbrev s_At_init : Stmt := inClass (top 47) 1
abbrev a_At_init (K : PySem.W.Frag) : Addr := He.ma K (He.ga K "At") "__init__"
def d_At_init : He5.DefA := ⟨a_At_init, "__init__", "At.__init__", defArgs s_At_init, defBody s_At_init, defScope s_At_init, [], []⟩
abbrev s_At_holds : Stmt := inClass (top 47) 2
abbrev a_At_holds (K : PySem.W.Frag) : Addr := He.ma K (He.ga K "At") "holds"
def d_At_holds : He5.DefA := ⟨a_At_holds, "holds", "At.holds", defArgs s_At_holds, defBody s_At_holds, defScope s_At_holds, [], []⟩
abbrev s_Below_init : Stmt := inClass (top 48) 1
abbrev a_Below_init (K : PySem.W.Frag) : Addr := He.ma K (He.ga K "Below") "__init__"
def d_Below_init : He5.DefA := ⟨a_Below_init, "__init__", "Below.__init__", defArgs s_Below_init, defBody s_Below_init, defScope s_Below_init, [], []⟩
abbrev s_Below_holds : Stmt := inClass (top 48) 2
abbrev a_Below_holds (K : PySem.W.Frag) : Addr := He.ma K (He.ga K "Below") "holds"
def d_Below_holds : He5.DefA := ⟨a_Below_holds, "holds", "Below.holds", defArgs s_Below_holds, defBody s_Below_holds, defScope s_Below_holds, [], []⟩
abbrev s_Between_init : Stmt := inClass (top 49) 1
abbrev a_Between_init (K : PySem.W.Frag) : Addr := He.ma K (He.ga K "Between") "__init__"
def d_Between_init : He5.DefA := ⟨a_Between_init, "__init__", "Between.__init__", defArgs s_Between_init, defBody s_Between_init, defScope s_Between_init, [], []⟩
abbrev s_Between_arguments : Stmt := inClass (top 49) 2
abbrev a_Between_arguments (K : PySem.W.Frag) : Addr := He.ma K (He.ga K "Between") "arguments"
def d_Between_arguments : He5.DefA := ⟨a_Between_arguments, "arguments", "Between.arguments", defArgs s_Between_arguments, defBody s_Between_arguments, defScope s_Between_arguments, [], []⟩
abbrev s_Between_holds : Stmt := inClass (top 49) 3
abbrev a_Between_holds (K : PySem.W.Frag) : Addr := He.ma K (He.ga K "Between") "holds"
def d_Between_holds : He5.DefA := ⟨a_Between_holds, "holds", "Between.holds", defArgs s_Between_holds, defBody s_Between_holds, defScope s_Between_holds, [], []⟩
abbrev s_law_pen : Stmt := top 57
abbrev a_law_pen (K : PySem.W.Frag) : Addr := He.ga K "_law_pen"
def d_law_pen : He5.DefA := ⟨a_law_pen, "_law_pen", "_law_pen", defArgs s_law_pen, defBody s_law_pen, defScope s_law_pen, [], []⟩
abbrev s_law_draw : Stmt := top 58
abbrev a_law_draw (K : PySem.W.Frag) : Addr := He.ga K "_law_draw"
def d_law_draw : He5.DefA := ⟨a_law_draw, "_law_draw", "_law_draw", defArgs s_law_draw, defBody s_law_draw, defScope s_law_draw, [], []⟩
abbrev s_law_pick : Stmt := top 59
abbrev a_law_pick (K : PySem.W.Frag) : Addr := He.ga K "_law_pick"
def d_law_pick : He5.DefA := ⟨a_law_pick, "_law_pick", "_law_pick", defArgs s_law_pick, defBody s_law_pick, defScope s_law_pick, [], []⟩
abbrev s_law_fraction : Stmt := top 60
abbrev a_law_fraction (K : PySem.W.Frag) : Addr := He.ga K "_law_fraction"
def d_law_fraction : He5.DefA := ⟨a_law_fraction, "_law_fraction", "_law_fraction", defArgs s_law_fraction, defBody s_law_fraction, defScope s_law_fraction, [], []⟩
abbrev s_law_number : Stmt := top 61
abbrev a_law_number (K : PySem.W.Frag) : Addr := He.ga K "_law_number"
def d_law_number : He5.DefA := ⟨a_law_number, "_law_number", "_law_number", defArgs s_law_number, defBody s_law_number, defScope s_law_number, [], []⟩
abbrev s_law_term : Stmt := top 62
abbrev a_law_term (K : PySem.W.Frag) : Addr := He.ga K "_law_term"
def d_law_term : He5.DefA := ⟨a_law_term, "_law_term", "_law_term", defArgs s_law_term, defBody s_law_term, defScope s_law_term, [], []⟩
abbrev s_law_real_term : Stmt := top 63
abbrev a_law_real_term (K : PySem.W.Frag) : Addr := He.ga K "_law_real_term"
def d_law_real_term : He5.DefA := ⟨a_law_real_term, "_law_real_term", "_law_real_term", defArgs s_law_real_term, defBody s_law_real_term, defScope s_law_real_term, [], []⟩
abbrev s_law_key : Stmt := top 64
abbrev a_law_key (K : PySem.W.Frag) : Addr := He.ga K "_law_key"
def d_law_key : He5.DefA := ⟨a_law_key, "_law_key", "_law_key", defArgs s_law_key, defBody s_law_key, defScope s_law_key, [], []⟩
abbrev s_law_holds : Stmt := top 65
abbrev a_law_holds (K : PySem.W.Frag) : Addr := He.ga K "_law_holds"
def d_law_holds : He5.DefA := ⟨a_law_holds, "_law_holds", "_law_holds", defArgs s_law_holds, defBody s_law_holds, defScope s_law_holds, [], []⟩
abbrev s_law_real : Stmt := top 66
abbrev a_law_real (K : PySem.W.Frag) : Addr := He.ga K "_law_real"
def d_law_real : He5.DefA := ⟨a_law_real, "_law_real", "_law_real", defArgs s_law_real, defBody s_law_real, defScope s_law_real, [], []⟩
abbrev s_law_compared : Stmt := top 67
abbrev a_law_compared (K : PySem.W.Frag) : Addr := He.ga K "_law_compared"
def d_law_compared : He5.DefA := ⟨a_law_compared, "_law_compared", "_law_compared", defArgs s_law_compared, defBody s_law_compared, defScope s_law_compared, [], []⟩
abbrev s_law_kept_right : Stmt := top 68
abbrev a_law_kept_right (K : PySem.W.Frag) : Addr := He.ga K "_law_kept_right"
def d_law_kept_right : He5.DefA := ⟨a_law_kept_right, "_law_kept_right", "_law_kept_right", defArgs s_law_kept_right, defBody s_law_kept_right, defScope s_law_kept_right, [], []⟩
abbrev s_law_near_right : Stmt := top 69
abbrev a_law_near_right (K : PySem.W.Frag) : Addr := He.ga K "_law_near_right"
def d_law_near_right : He5.DefA := ⟨a_law_near_right, "_law_near_right", "_law_near_right", defArgs s_law_near_right, defBody s_law_near_right, defScope s_law_near_right, [], []⟩
abbrev s_law_far_right : Stmt := top 70
abbrev a_law_far_right (K : PySem.W.Frag) : Addr := He.ga K "_law_far_right"
def d_law_far_right : He5.DefA := ⟨a_law_far_right, "_law_far_right", "_law_far_right", defArgs s_law_far_right, defBody s_law_far_right, defScope s_law_far_right, [], []⟩
abbrev s_law : Stmt := top 71
abbrev a_law (K : PySem.W.Frag) : Addr := He.ga K "law"
def d_law : He5.DefA := ⟨a_law, "law", "law", defArgs s_law, defBody s_law, defScope s_law, [], []⟩
def fns : List He5.DefA := [d_is_integer, d_is_between, d_common_divisor, d_parts_of, d_need_divisor, d_Ratio_init, d_Ratio_is_number, d_Ratio_is_fifth, d_is_fifth, d_need_fifth, d_key_of, d_marks_with, d_marks_of_pair, d_marks_of_three, d_need_note, d_Term_init, d_Term_is_moving, d_Term_note, d_Term_eq, d_need_term, d_Saying_init, d_Saying_deep, d_Saying_call, d_Saying_eq, d_Paired_arguments, d_Comparing_parts, d_Comparing_keys_of, d_At_init, d_At_holds, d_Below_init, d_Below_holds, d_Between_init, d_Between_arguments, d_Between_holds, d_law_pen, d_law_draw, d_law_pick, d_law_fraction, d_law_number, d_law_term, d_law_real_term, d_law_key, d_law_holds, d_law_real, d_law_compared, d_law_kept_right, d_law_near_right, d_law_far_right, d_law]
def exs : List G.ExB := [G.gloB "is_integer", G.gloB "is_between", G.gloB "common_divisor", G.gloB "parts_of", G.gloB "need_divisor", G.gloB "is_fifth", G.gloB "need_fifth", G.gloB "key_of", G.gloB "marks_with", G.gloB "marks_of_pair", G.gloB "marks_of_three", G.gloB "need_note", G.gloB "need_term", G.gloB "_law_pen", G.gloB "_law_draw", G.gloB "_law_pick", G.gloB "_law_fraction", G.gloB "_law_number", G.gloB "_law_term", G.gloB "_law_real_term", G.gloB "_law_key", G.gloB "_law_holds", G.gloB "_law_real", G.gloB "_law_compared", G.gloB "_law_kept_right", G.gloB "_law_near_right", G.gloB "_law_far_right", G.gloB "law", G.gloB "Ratio", G.clsB "Ratio", G.isiB "Ratio", G.rdB "Ratio", G.mkrB "Ratio", G.gloB "Term", G.clsB "Term", G.isiB "Term", G.rdB "Term", G.mkrB "Term", G.gloB "Note", G.clsB "Note", G.isiB "Note", G.rdB "Note", G.gloB "Moving", G.clsB "Moving", G.isiB "Moving", G.rdB "Moving", G.gloB "Saying", G.clsB "Saying", G.isiB "Saying", G.rdB "Saying", G.mkrB "Saying", G.gloB "Paired", G.clsB "Paired", G.isiB "Paired", G.rdB "Paired", G.gloB "Comparing", G.clsB "Comparing", G.isiB "Comparing", G.rdB "Comparing", G.gloB "Levelled", G.clsB "Levelled", G.isiB "Levelled", G.rdB "Levelled", G.gloB "At", G.clsB "At", G.isiB "At", G.rdB "At", G.mkrB "At", G.gloB "Below", G.clsB "Below", G.isiB "Below", G.rdB "Below", G.mkrB "Below", G.gloB "Between", G.clsB "Between", G.isiB "Between", G.rdB "Between", G.mkrB "Between", G.gloB "Joined", G.clsB "Joined", G.isiB "Joined", G.rdB "Joined", G.smB "Ratio" "is_number", G.smB "Ratio" "is_fifth", G.prB "Term" "is_moving", G.methB "Term" "note", G.ownB "Term" "__eq__", G.prB "Saying" "deep", G.ownB "Saying" "__call__", G.ownB "Saying" "__eq__", G.methB "Paired" "arguments", G.methB "Comparing" "parts", G.methB "Comparing" "keys_of", G.methB "At" "holds", G.methB "Below" "holds", G.methB "Between" "arguments", G.methB "Between" "holds", G.noatB "Ratio" "top", G.noatB "Ratio" "bottom", G.noatB "Note" "number", G.noatB "Moving" "number", G.noatB "At" "own_marks", G.noatB "At" "own_sizes", G.noatB "At" "one", G.noatB "At" "other", G.noatB "Below" "own_marks", G.noatB "Below" "own_sizes", G.noatB "Below" "one", G.noatB "Below" "other", G.noatB "Between" "own_marks", G.noatB "Between" "own_sizes", G.noatB "Between" "first", G.noatB "Between" "inside", G.noatB "Between" "last", G.freB "isinstance", G.freB "int", G.freB "bool", G.freB "abs", G.freB "len", G.freB "range", G.freB "list", G.freB "tuple", G.freB "repr", G.freB "sorted", G.freB "set", G.inhB "Note" "Term" "__init__", G.mkrB "Note", G.prB "Note" "is_moving", G.inhP "Note" "Term" "is_moving", G.inhB "Note" "Term" "note", G.methB "Note" "note", G.inhB "Note" "Term" "__eq__", G.ownB "Note" "__eq__", G.neB "Note", G.inhB "Moving" "Term" "__init__", G.mkrB "Moving", G.prB "Moving" "is_moving", G.inhP "Moving" "Term" "is_moving", G.inhB "Moving" "Term" "note", G.methB "Moving" "note", G.inhB "Moving" "Term" "__eq__", G.ownB "Moving" "__eq__", G.neB "Moving", G.inhB "At" "Comparing" "parts", G.methB "At" "parts", G.inhB "At" "Comparing" "keys_of", G.methB "At" "keys_of", G.prB "At" "deep", G.inhP "At" "Saying" "deep", G.inhB "At" "Saying" "__call__", G.ownB "At" "__call__", G.inhB "At" "Saying" "__eq__", G.ownB "At" "__eq__", G.neB "At", G.inhB "At" "Paired" "arguments", G.methB "At" "arguments", G.inhB "Below" "Comparing" "parts", G.methB "Below" "parts", G.inhB "Below" "Comparing" "keys_of", G.methB "Below" "keys_of", G.prB "Below" "deep", G.inhP "Below" "Saying" "deep", G.inhB "Below" "Saying" "__call__", G.ownB "Below" "__call__", G.inhB "Below" "Saying" "__eq__", G.ownB "Below" "__eq__", G.neB "Below", G.inhB "Below" "Paired" "arguments", G.methB "Below" "arguments", G.inhB "Between" "Comparing" "parts", G.methB "Between" "parts", G.inhB "Between" "Comparing" "keys_of", G.methB "Between" "keys_of", G.prB "Between" "deep", G.inhP "Between" "Saying" "deep", G.inhB "Between" "Saying" "__call__", G.ownB "Between" "__call__", G.inhB "Between" "Saying" "__eq__", G.ownB "Between" "__eq__", G.neB "Between", G.cfnB "Comparing" "__init__", G.inhB "Comparing" "Saying" "__init__", G.gintB "MOST_NUMBER" (12), G.cintB "Saying" "MOST" (12), G.cintB "Saying" "MOST_DEEP" (6), G.cintB "Saying" "MOST_SPAN" (48), G.kitB (fun _ => .type "int") "Ratio" false, G.kitB (fun K => .ref (He.ga K "Ratio")) "Ratio" true, G.nfB "Ratio" (fun K => .ref (He.ga K "Ratio")), G.kitB (fun K => .ref (He.ga K "Note")) "Term" true, G.nfB "Note" (fun K => .ref (He.ga K "Note")), G.nfB "Note" (fun K => .ref (He.ga K "Moving")), G.kitB (fun K => .ref (He.ga K "Moving")) "Term" true, G.nfB "Moving" (fun K => .ref (He.ga K "Note")), G.nfB "Moving" (fun K => .ref (He.ga K "Moving")), G.kitB (fun K => .ref (He.ga K "At")) "At" true, G.nfB "At" (fun K => .ref (He.ga K "At")), G.kitB (fun K => .ref (He.ga K "At")) "Below" false, G.nfB "At" (fun K => .ref (He.ga K "Below")), G.kitB (fun K => .ref (He.ga K "At")) "Between" false, G.nfB "At" (fun K => .ref (He.ga K "Between")), G.kitB (fun K => .ref (He.ga K "At")) "Saying" true, G.kitB (fun K => .ref (He.ga K "At")) "Comparing" true, G.kitB (fun K => .ref (He.ga K "At")) "Paired" true, G.kitB (fun K => .ref (He.ga K "At")) "Levelled" false, G.kitB (fun K => .ref (He.ga K "At")) "Joined" false, G.nfB "At" (fun _ => .type "NoneType"), G.nfB "At" (fun _ => .type "tuple"), G.nfB "At" (fun _ => .type "str"), G.nfB "At" (fun _ => .type "bool"), G.kitB (fun K => .ref (He.ga K "Below")) "At" false, G.nfB "Below" (fun K => .ref (He.ga K "At")), G.kitB (fun K => .ref (He.ga K "Below")) "Below" true, G.nfB "Below" (fun K => .ref (He.ga K "Below")), G.kitB (fun K => .ref (He.ga K "Below")) "Between" false, G.nfB "Below" (fun K => .ref (He.ga K "Between")), G.kitB (fun K => .ref (He.ga K "Below")) "Saying" true, G.kitB (fun K => .ref (He.ga K "Below")) "Comparing" true, G.kitB (fun K => .ref (He.ga K "Below")) "Paired" true, G.kitB (fun K => .ref (He.ga K "Below")) "Levelled" false, G.kitB (fun K => .ref (He.ga K "Below")) "Joined" false, G.nfB "Below" (fun _ => .type "NoneType"), G.nfB "Below" (fun _ => .type "tuple"), G.nfB "Below" (fun _ => .type "str"), G.nfB "Below" (fun _ => .type "bool"), G.kitB (fun K => .ref (He.ga K "Between")) "At" false, G.nfB "Between" (fun K => .ref (He.ga K "At")), G.kitB (fun K => .ref (He.ga K "Between")) "Below" false, G.nfB "Between" (fun K => .ref (He.ga K "Below")), G.kitB (fun K => .ref (He.ga K "Between")) "Between" true, G.nfB "Between" (fun K => .ref (He.ga K "Between")), G.kitB (fun K => .ref (He.ga K "Between")) "Saying" true, G.kitB (fun K => .ref (He.ga K "Between")) "Comparing" true, G.kitB (fun K => .ref (He.ga K "Between")) "Paired" false, G.kitB (fun K => .ref (He.ga K "Between")) "Levelled" false, G.kitB (fun K => .ref (He.ga K "Between")) "Joined" false, G.nfB "Between" (fun _ => .type "NoneType"), G.nfB "Between" (fun _ => .type "tuple"), G.nfB "Between" (fun _ => .type "str"), G.nfB "Between" (fun _ => .type "bool"), G.kitB (fun _ => .type "NoneType") "Saying" false, G.kitB (fun _ => .type "tuple") "Saying" false, G.kitB (fun _ => .type "str") "Saying" false, G.kitB (fun _ => .type "bool") "Saying" false, G.conB "Note" "MOVES" 0, G.conB "Moving" "MOVES" 1, G.conSB "At" "WORD" "at", G.conSB "Below" "WORD" "below", G.conSB "Between" "WORD" "between", (fun K => PySem.W.fnIn K (He.ma K (He.ga K "Saying") "__call__"))]
abbrev Tx (K : PySem.W.Frag) (mg : Str → Option Value) : Prop := G.Txt exs fns K mg
section
variable {K : PySem.W.Frag} {mg : Str → Option Value} (T : Tx K mg)
include T
theorem gl_is_integer : mg "is_integer" = some (.ref (He.ga K "is_integer")) := T.gl 0 "is_integer"
theorem gl_is_between : mg "is_between" = some (.ref (He.ga K "is_between")) := T.gl 1 "is_between"
theorem gl_common_divisor : mg "common_divisor" = some (.ref (He.ga K "common_divisor")) := T.gl 2 "common_divisor"
theorem gl_parts_of : mg "parts_of" = some (.ref (He.ga K "parts_of")) := T.gl 3 "parts_of"
theorem gl_need_divisor : mg "need_divisor" = some (.ref (He.ga K "need_divisor")) := T.gl 4 "need_divisor"
theorem gl_is_fifth : mg "is_fifth" = some (.ref (He.ga K "is_fifth")) := T.gl 5 "is_fifth"
theorem gl_need_fifth : mg "need_fifth" = some (.ref (He.ga K "need_fifth")) := T.gl 6 "need_fifth"
theorem gl_key_of : mg "key_of" = some (.ref (He.ga K "key_of")) := T.gl 7 "key_of"
theorem gl_marks_with : mg "marks_with" = some (.ref (He.ga K "marks_with")) := T.gl 8 "marks_with"
theorem gl_marks_of_pair : mg "marks_of_pair" = some (.ref (He.ga K "marks_of_pair")) := T.gl 9 "marks_of_pair"
theorem gl_marks_of_three : mg "marks_of_three" = some (.ref (He.ga K "marks_of_three")) := T.gl 10 "marks_of_three"
theorem gl_need_note : mg "need_note" = some (.ref (He.ga K "need_note")) := T.gl 11 "need_note"
theorem gl_need_term : mg "need_term" = some (.ref (He.ga K "need_term")) := T.gl 12 "need_term"
theorem gl_law_pen : mg "_law_pen" = some (.ref (He.ga K "_law_pen")) := T.gl 13 "_law_pen"
theorem gl_law_draw : mg "_law_draw" = some (.ref (He.ga K "_law_draw")) := T.gl 14 "_law_draw"
theorem gl_law_pick : mg "_law_pick" = some (.ref (He.ga K "_law_pick")) := T.gl 15 "_law_pick"
theorem gl_law_fraction : mg "_law_fraction" = some (.ref (He.ga K "_law_fraction")) := T.gl 16 "_law_fraction"
theorem gl_law_number : mg "_law_number" = some (.ref (He.ga K "_law_number")) := T.gl 17 "_law_number"
theorem gl_law_term : mg "_law_term" = some (.ref (He.ga K "_law_term")) := T.gl 18 "_law_term"
theorem gl_law_real_term : mg "_law_real_term" = some (.ref (He.ga K "_law_real_term")) := T.gl 19 "_law_real_term"
theorem gl_law_key : mg "_law_key" = some (.ref (He.ga K "_law_key")) := T.gl 20 "_law_key"
theorem gl_law_holds : mg "_law_holds" = some (.ref (He.ga K "_law_holds")) := T.gl 21 "_law_holds"
theorem gl_law_real : mg "_law_real" = some (.ref (He.ga K "_law_real")) := T.gl 22 "_law_real"
theorem gl_law_compared : mg "_law_compared" = some (.ref (He.ga K "_law_compared")) := T.gl 23 "_law_compared"
theorem gl_law_kept_right : mg "_law_kept_right" = some (.ref (He.ga K "_law_kept_right")) := T.gl 24 "_law_kept_right"
theorem gl_law_near_right : mg "_law_near_right" = some (.ref (He.ga K "_law_near_right")) := T.gl 25 "_law_near_right"
theorem gl_law_far_right : mg "_law_far_right" = some (.ref (He.ga K "_law_far_right")) := T.gl 26 "_law_far_right"
theorem gl_law : mg "law" = some (.ref (He.ga K "law")) := T.gl 27 "law"
theorem gl_Ratio : mg "Ratio" = some (.ref (He.ga K "Ratio")) := T.gl 28 "Ratio"
theorem cl_Ratio : Cls K (He.ga K "Ratio") := He.cls_ok (T.fact 29)
theorem is_Ratio : G.IsiC K (He.ga K "Ratio") := G.isiB_ok (T.fact 30)
theorem rd_Ratio : ClX.CRead K (He.ga K "Ratio") (.type "type") := G.rdB_ok (T.fact 31)
theorem mk_Ratio : Mk K (He.ga K "Ratio") (a_Ratio_init K) := He.mkr_ok (T.fact 32)
theorem gl_Term : mg "Term" = some (.ref (He.ga K "Term")) := T.gl 33 "Term"
theorem cl_Term : Cls K (He.ga K "Term") := He.cls_ok (T.fact 34)
theorem is_Term : G.IsiC K (He.ga K "Term") := G.isiB_ok (T.fact 35)
theorem rd_Term : ClX.CRead K (He.ga K "Term") (.type "type") := G.rdB_ok (T.fact 36)
theorem mk_Term : Mk K (He.ga K "Term") (a_Term_init K) := He.mkr_ok (T.fact 37)
theorem gl_Note : mg "Note" = some (.ref (He.ga K "Note")) := T.gl 38 "Note"
theorem cl_Note : Cls K (He.ga K "Note") := He.cls_ok (T.fact 39)
theorem is_Note : G.IsiC K (He.ga K "Note") := G.isiB_ok (T.fact 40)
theorem rd_Note : ClX.CRead K (He.ga K "Note") (.type "type") := G.rdB_ok (T.fact 41)
theorem gl_Moving : mg "Moving" = some (.ref (He.ga K "Moving")) := T.gl 42 "Moving"
theorem cl_Moving : Cls K (He.ga K "Moving") := He.cls_ok (T.fact 43)
theorem is_Moving : G.IsiC K (He.ga K "Moving") := G.isiB_ok (T.fact 44)
theorem rd_Moving : ClX.CRead K (He.ga K "Moving") (.type "type") := G.rdB_ok (T.fact 45)
theorem gl_Saying : mg "Saying" = some (.ref (He.ga K "Saying")) := T.gl 46 "Saying"
theorem cl_Saying : Cls K (He.ga K "Saying") := He.cls_ok (T.fact 47)
theorem is_Saying : G.IsiC K (He.ga K "Saying") := G.isiB_ok (T.fact 48)
theorem rd_Saying : ClX.CRead K (He.ga K "Saying") (.type "type") := G.rdB_ok (T.fact 49)
theorem mk_Saying : Mk K (He.ga K "Saying") (a_Saying_init K) := He.mkr_ok (T.fact 50)
theorem gl_Paired : mg "Paired" = some (.ref (He.ga K "Paired")) := T.gl 51 "Paired"
theorem cl_Paired : Cls K (He.ga K "Paired") := He.cls_ok (T.fact 52)
theorem is_Paired : G.IsiC K (He.ga K "Paired") := G.isiB_ok (T.fact 53)
theorem rd_Paired : ClX.CRead K (He.ga K "Paired") (.type "type") := G.rdB_ok (T.fact 54)
theorem gl_Comparing : mg "Comparing" = some (.ref (He.ga K "Comparing")) := T.gl 55 "Comparing"
theorem cl_Comparing : Cls K (He.ga K "Comparing") := He.cls_ok (T.fact 56)
theorem is_Comparing : G.IsiC K (He.ga K "Comparing") := G.isiB_ok (T.fact 57)
theorem rd_Comparing : ClX.CRead K (He.ga K "Comparing") (.type "type") := G.rdB_ok (T.fact 58)
theorem gl_Levelled : mg "Levelled" = some (.ref (He.ga K "Levelled")) := T.gl 59 "Levelled"
theorem cl_Levelled : Cls K (He.ga K "Levelled") := He.cls_ok (T.fact 60)
theorem is_Levelled : G.IsiC K (He.ga K "Levelled") := G.isiB_ok (T.fact 61)
theorem rd_Levelled : ClX.CRead K (He.ga K "Levelled") (.type "type") := G.rdB_ok (T.fact 62)
theorem gl_At : mg "At" = some (.ref (He.ga K "At")) := T.gl 63 "At"
theorem cl_At : Cls K (He.ga K "At") := He.cls_ok (T.fact 64)
theorem is_At : G.IsiC K (He.ga K "At") := G.isiB_ok (T.fact 65)
theorem rd_At : ClX.CRead K (He.ga K "At") (.type "type") := G.rdB_ok (T.fact 66)
theorem mk_At : Mk K (He.ga K "At") (a_At_init K) := He.mkr_ok (T.fact 67)
theorem gl_Below : mg "Below" = some (.ref (He.ga K "Below")) := T.gl 68 "Below"
theorem cl_Below : Cls K (He.ga K "Below") := He.cls_ok (T.fact 69)
theorem is_Below : G.IsiC K (He.ga K "Below") := G.isiB_ok (T.fact 70)
theorem rd_Below : ClX.CRead K (He.ga K "Below") (.type "type") := G.rdB_ok (T.fact 71)
theorem mk_Below : Mk K (He.ga K "Below") (a_Below_init K) := He.mkr_ok (T.fact 72)
theorem gl_Between : mg "Between" = some (.ref (He.ga K "Between")) := T.gl 73 "Between"
theorem cl_Between : Cls K (He.ga K "Between") := He.cls_ok (T.fact 74)
theorem is_Between : G.IsiC K (He.ga K "Between") := G.isiB_ok (T.fact 75)
theorem rd_Between : ClX.CRead K (He.ga K "Between") (.type "type") := G.rdB_ok (T.fact 76)
theorem mk_Between : Mk K (He.ga K "Between") (a_Between_init K) := He.mkr_ok (T.fact 77)
theorem gl_Joined : mg "Joined" = some (.ref (He.ga K "Joined")) := T.gl 78 "Joined"
theorem cl_Joined : Cls K (He.ga K "Joined") := He.cls_ok (T.fact 79)
theorem is_Joined : G.IsiC K (He.ga K "Joined") := G.isiB_ok (T.fact 80)
theorem rd_Joined : ClX.CRead K (He.ga K "Joined") (.type "type") := G.rdB_ok (T.fact 81)
theorem sm_Ratio_is_number : G.SMet K (He.ga K "Ratio") (.type "type") "is_number" (a_Ratio_is_number K) := G.smB_ok (T.fact 82)
theorem sm_Ratio_is_fifth : G.SMet K (He.ga K "Ratio") (.type "type") "is_fifth" (a_Ratio_is_fifth K) := G.smB_ok (T.fact 83)
theorem pr_Term_is_moving : L2.PropOf K (He.ga K "Term") "is_moving" (He.ma K (He.ga K "Term") "is_moving") (a_Term_is_moving K) := G.prB_ok (T.fact 84)
theorem me_Term_note : Meth K (He.ga K "Term") "note" (a_Term_note K) := He.meth_ok (T.fact 85)
theorem ow_Term_eq : G.OwnM K (He.ga K "Term") "__eq__" (a_Term_eq K) := G.ownB_ok (T.fact 86)
theorem pr_Saying_deep : L2.PropOf K (He.ga K "Saying") "deep" (He.ma K (He.ga K "Saying") "deep") (a_Saying_deep K) := G.prB_ok (T.fact 87)
theorem ow_Saying_call : G.OwnM K (He.ga K "Saying") "__call__" (a_Saying_call K) := G.ownB_ok (T.fact 88)
theorem ow_Saying_eq : G.OwnM K (He.ga K "Saying") "__eq__" (a_Saying_eq K) := G.ownB_ok (T.fact 89)
theorem me_Paired_arguments : Meth K (He.ga K "Paired") "arguments" (a_Paired_arguments K) := He.meth_ok (T.fact 90)
theorem me_Comparing_parts : Meth K (He.ga K "Comparing") "parts" (a_Comparing_parts K) := He.meth_ok (T.fact 91)
theorem me_Comparing_keys_of : Meth K (He.ga K "Comparing") "keys_of" (a_Comparing_keys_of K) := He.meth_ok (T.fact 92)
theorem me_At_holds : Meth K (He.ga K "At") "holds" (a_At_holds K) := He.meth_ok (T.fact 93)
theorem me_Below_holds : Meth K (He.ga K "Below") "holds" (a_Below_holds K) := He.meth_ok (T.fact 94)
theorem me_Between_arguments : Meth K (He.ga K "Between") "arguments" (a_Between_arguments K) := He.meth_ok (T.fact 95)
theorem me_Between_holds : Meth K (He.ga K "Between") "holds" (a_Between_holds K) := He.meth_ok (T.fact 96)
theorem na_Ratio_top : NoAttr K (He.ga K "Ratio") "top" := He.noat_ok (T.fact 97)
theorem na_Ratio_bottom : NoAttr K (He.ga K "Ratio") "bottom" := He.noat_ok (T.fact 98)
theorem na_Note_number : NoAttr K (He.ga K "Note") "number" := He.noat_ok (T.fact 99)
theorem na_Moving_number : NoAttr K (He.ga K "Moving") "number" := He.noat_ok (T.fact 100)
theorem na_At_own_marks : NoAttr K (He.ga K "At") "own_marks" := He.noat_ok (T.fact 101)
theorem na_At_own_sizes : NoAttr K (He.ga K "At") "own_sizes" := He.noat_ok (T.fact 102)
theorem na_At_one : NoAttr K (He.ga K "At") "one" := He.noat_ok (T.fact 103)
theorem na_At_other : NoAttr K (He.ga K "At") "other" := He.noat_ok (T.fact 104)
theorem na_Below_own_marks : NoAttr K (He.ga K "Below") "own_marks" := He.noat_ok (T.fact 105)
theorem na_Below_own_sizes : NoAttr K (He.ga K "Below") "own_sizes" := He.noat_ok (T.fact 106)
theorem na_Below_one : NoAttr K (He.ga K "Below") "one" := He.noat_ok (T.fact 107)
theorem na_Below_other : NoAttr K (He.ga K "Below") "other" := He.noat_ok (T.fact 108)
theorem na_Between_own_marks : NoAttr K (He.ga K "Between") "own_marks" := He.noat_ok (T.fact 109)
theorem na_Between_own_sizes : NoAttr K (He.ga K "Between") "own_sizes" := He.noat_ok (T.fact 110)
theorem na_Between_first : NoAttr K (He.ga K "Between") "first" := He.noat_ok (T.fact 111)
theorem na_Between_inside : NoAttr K (He.ga K "Between") "inside" := He.noat_ok (T.fact 112)
theorem na_Between_last : NoAttr K (He.ga K "Between") "last" := He.noat_ok (T.fact 113)
theorem fr_isinstance : mg "isinstance" = none := T.fr 114 "isinstance"
theorem fr_int : mg "int" = none := T.fr 115 "int"
theorem fr_bool : mg "bool" = none := T.fr 116 "bool"
theorem fr_abs : mg "abs" = none := T.fr 117 "abs"
theorem fr_len : mg "len" = none := T.fr 118 "len"
theorem fr_range : mg "range" = none := T.fr 119 "range"
theorem fr_list : mg "list" = none := T.fr 120 "list"
theorem fr_tuple : mg "tuple" = none := T.fr 121 "tuple"
theorem fr_repr : mg "repr" = none := T.fr 122 "repr"
theorem fr_sorted : mg "sorted" = none := T.fr 123 "sorted"
theorem fr_set : mg "set" = none := T.fr 124 "set"
theorem ih_Note_init : He.ma K (He.ga K "Note") "__init__" = a_Term_init K := G.inhB_ok (T.fact 125)
theorem xk_Note : Mk K (He.ga K "Note") (He.ma K (He.ga K "Note") "__init__") := He.mkr_ok (T.fact 126)
theorem xp_Note_is_moving : L2.PropOf K (He.ga K "Note") "is_moving" (He.ma K (He.ga K "Note") "is_moving") (G.prA "Note" "is_moving" K) := G.prB_ok (T.fact 127)
theorem ih_Note_is_moving : G.prA "Note" "is_moving" K = a_Term_is_moving K := G.inhP_ok (T.fact 128)
theorem ih_Note_note : He.ma K (He.ga K "Note") "note" = a_Term_note K := G.inhB_ok (T.fact 129)
theorem xm_Note_note : Meth K (He.ga K "Note") "note" (He.ma K (He.ga K "Note") "note") := He.meth_ok (T.fact 130)
theorem ih_Note_eq : He.ma K (He.ga K "Note") "__eq__" = a_Term_eq K := G.inhB_ok (T.fact 131)
theorem xo_Note_eq : G.OwnM K (He.ga K "Note") "__eq__" (He.ma K (He.ga K "Note") "__eq__") := G.ownB_ok (T.fact 132)
theorem xn_Note : G.NeM K (He.ga K "Note") (He.ma K (He.ga K "Note") "__eq__") := G.neB_ok (T.fact 133)
theorem ih_Moving_init : He.ma K (He.ga K "Moving") "__init__" = a_Term_init K := G.inhB_ok (T.fact 134)
theorem xk_Moving : Mk K (He.ga K "Moving") (He.ma K (He.ga K "Moving") "__init__") := He.mkr_ok (T.fact 135)
theorem xp_Moving_is_moving : L2.PropOf K (He.ga K "Moving") "is_moving" (He.ma K (He.ga K "Moving") "is_moving") (G.prA "Moving" "is_moving" K) := G.prB_ok (T.fact 136)
theorem ih_Moving_is_moving : G.prA "Moving" "is_moving" K = a_Term_is_moving K := G.inhP_ok (T.fact 137)
theorem ih_Moving_note : He.ma K (He.ga K "Moving") "note" = a_Term_note K := G.inhB_ok (T.fact 138)
theorem xm_Moving_note : Meth K (He.ga K "Moving") "note" (He.ma K (He.ga K "Moving") "note") := He.meth_ok (T.fact 139)
theorem ih_Moving_eq : He.ma K (He.ga K "Moving") "__eq__" = a_Term_eq K := G.inhB_ok (T.fact 140)
theorem xo_Moving_eq : G.OwnM K (He.ga K "Moving") "__eq__" (He.ma K (He.ga K "Moving") "__eq__") := G.ownB_ok (T.fact 141)
theorem xn_Moving : G.NeM K (He.ga K "Moving") (He.ma K (He.ga K "Moving") "__eq__") := G.neB_ok (T.fact 142)
theorem ih_At_parts : He.ma K (He.ga K "At") "parts" = a_Comparing_parts K := G.inhB_ok (T.fact 143)
theorem xm_At_parts : Meth K (He.ga K "At") "parts" (He.ma K (He.ga K "At") "parts") := He.meth_ok (T.fact 144)
theorem ih_At_keys_of : He.ma K (He.ga K "At") "keys_of" = a_Comparing_keys_of K := G.inhB_ok (T.fact 145)
theorem xm_At_keys_of : Meth K (He.ga K "At") "keys_of" (He.ma K (He.ga K "At") "keys_of") := He.meth_ok (T.fact 146)
theorem xp_At_deep : L2.PropOf K (He.ga K "At") "deep" (He.ma K (He.ga K "At") "deep") (G.prA "At" "deep" K) := G.prB_ok (T.fact 147)
theorem ih_At_deep : G.prA "At" "deep" K = a_Saying_deep K := G.inhP_ok (T.fact 148)
theorem ih_At_call : He.ma K (He.ga K "At") "__call__" = a_Saying_call K := G.inhB_ok (T.fact 149)
theorem xo_At_call : G.OwnM K (He.ga K "At") "__call__" (He.ma K (He.ga K "At") "__call__") := G.ownB_ok (T.fact 150)
theorem ih_At_eq : He.ma K (He.ga K "At") "__eq__" = a_Saying_eq K := G.inhB_ok (T.fact 151)
theorem xo_At_eq : G.OwnM K (He.ga K "At") "__eq__" (He.ma K (He.ga K "At") "__eq__") := G.ownB_ok (T.fact 152)
theorem xn_At : G.NeM K (He.ga K "At") (He.ma K (He.ga K "At") "__eq__") := G.neB_ok (T.fact 153)
theorem ih_At_arguments : He.ma K (He.ga K "At") "arguments" = a_Paired_arguments K := G.inhB_ok (T.fact 154)
theorem xm_At_arguments : Meth K (He.ga K "At") "arguments" (He.ma K (He.ga K "At") "arguments") := He.meth_ok (T.fact 155)
theorem ih_Below_parts : He.ma K (He.ga K "Below") "parts" = a_Comparing_parts K := G.inhB_ok (T.fact 156)
theorem xm_Below_parts : Meth K (He.ga K "Below") "parts" (He.ma K (He.ga K "Below") "parts") := He.meth_ok (T.fact 157)
theorem ih_Below_keys_of : He.ma K (He.ga K "Below") "keys_of" = a_Comparing_keys_of K := G.inhB_ok (T.fact 158)
theorem xm_Below_keys_of : Meth K (He.ga K "Below") "keys_of" (He.ma K (He.ga K "Below") "keys_of") := He.meth_ok (T.fact 159)
theorem xp_Below_deep : L2.PropOf K (He.ga K "Below") "deep" (He.ma K (He.ga K "Below") "deep") (G.prA "Below" "deep" K) := G.prB_ok (T.fact 160)
theorem ih_Below_deep : G.prA "Below" "deep" K = a_Saying_deep K := G.inhP_ok (T.fact 161)
theorem ih_Below_call : He.ma K (He.ga K "Below") "__call__" = a_Saying_call K := G.inhB_ok (T.fact 162)
theorem xo_Below_call : G.OwnM K (He.ga K "Below") "__call__" (He.ma K (He.ga K "Below") "__call__") := G.ownB_ok (T.fact 163)
theorem ih_Below_eq : He.ma K (He.ga K "Below") "__eq__" = a_Saying_eq K := G.inhB_ok (T.fact 164)
theorem xo_Below_eq : G.OwnM K (He.ga K "Below") "__eq__" (He.ma K (He.ga K "Below") "__eq__") := G.ownB_ok (T.fact 165)
theorem xn_Below : G.NeM K (He.ga K "Below") (He.ma K (He.ga K "Below") "__eq__") := G.neB_ok (T.fact 166)
theorem ih_Below_arguments : He.ma K (He.ga K "Below") "arguments" = a_Paired_arguments K := G.inhB_ok (T.fact 167)
theorem xm_Below_arguments : Meth K (He.ga K "Below") "arguments" (He.ma K (He.ga K "Below") "arguments") := He.meth_ok (T.fact 168)
theorem ih_Between_parts : He.ma K (He.ga K "Between") "parts" = a_Comparing_parts K := G.inhB_ok (T.fact 169)
theorem xm_Between_parts : Meth K (He.ga K "Between") "parts" (He.ma K (He.ga K "Between") "parts") := He.meth_ok (T.fact 170)
theorem ih_Between_keys_of : He.ma K (He.ga K "Between") "keys_of" = a_Comparing_keys_of K := G.inhB_ok (T.fact 171)
theorem xm_Between_keys_of : Meth K (He.ga K "Between") "keys_of" (He.ma K (He.ga K "Between") "keys_of") := He.meth_ok (T.fact 172)
theorem xp_Between_deep : L2.PropOf K (He.ga K "Between") "deep" (He.ma K (He.ga K "Between") "deep") (G.prA "Between" "deep" K) := G.prB_ok (T.fact 173)
theorem ih_Between_deep : G.prA "Between" "deep" K = a_Saying_deep K := G.inhP_ok (T.fact 174)
theorem ih_Between_call : He.ma K (He.ga K "Between") "__call__" = a_Saying_call K := G.inhB_ok (T.fact 175)
theorem xo_Between_call : G.OwnM K (He.ga K "Between") "__call__" (He.ma K (He.ga K "Between") "__call__") := G.ownB_ok (T.fact 176)
theorem ih_Between_eq : He.ma K (He.ga K "Between") "__eq__" = a_Saying_eq K := G.inhB_ok (T.fact 177)
theorem xo_Between_eq : G.OwnM K (He.ga K "Between") "__eq__" (He.ma K (He.ga K "Between") "__eq__") := G.ownB_ok (T.fact 178)
theorem xn_Between : G.NeM K (He.ga K "Between") (He.ma K (He.ga K "Between") "__eq__") := G.neB_ok (T.fact 179)
theorem xf_Comparing_init : G.CFn K (He.ga K "Comparing") (.type "type") "__init__" (He.ma K (He.ga K "Comparing") "__init__") := G.cfnB_ok (T.fact 180)
theorem ih_Comparing_init : (He.ma K (He.ga K "Comparing") "__init__") = a_Saying_init K := G.inhB_ok (T.fact 181)
theorem gi_MOST_NUMBER : ∃ u, mg "MOST_NUMBER" = some (.int (12) u) := G.gint_ok T 182 "MOST_NUMBER" rfl
theorem ck_Saying_MOST : ∃ u, ClX.CVal K (He.ga K "Saying") (.type "type") "MOST" (.int (12)) u := G.cintB_ok (T.fact 183)
theorem ck_Saying_MOST_DEEP : ∃ u, ClX.CVal K (He.ga K "Saying") (.type "type") "MOST_DEEP" (.int (6)) u := G.cintB_ok (T.fact 184)
theorem ck_Saying_MOST_SPAN : ∃ u, ClX.CVal K (He.ga K "Saying") (.type "type") "MOST_SPAN" (.int (48)) u := G.cintB_ok (T.fact 185)
theorem ki_int_Ratio : PySem.W.kitOne K (.type "int") (.ref (He.ga K "Ratio")) = some false := G.kitB_ok (T.fact 186)
theorem ki_Ratio_Ratio : PySem.W.kitOne K (.ref (He.ga K "Ratio")) (.ref (He.ga K "Ratio")) = some true := G.kitB_ok (T.fact 187)
theorem nf_Ratio_Ratio : PySem.W.notFirst K (He.ga K "Ratio") (.ref (He.ga K "Ratio")) = true := id (T.fact 188)
theorem ki_Note_Term : PySem.W.kitOne K (.ref (He.ga K "Note")) (.ref (He.ga K "Term")) = some true := G.kitB_ok (T.fact 189)
theorem nf_Note_Note : PySem.W.notFirst K (He.ga K "Note") (.ref (He.ga K "Note")) = true := id (T.fact 190)
theorem nf_Note_Moving : PySem.W.notFirst K (He.ga K "Note") (.ref (He.ga K "Moving")) = true := id (T.fact 191)
theorem ki_Moving_Term : PySem.W.kitOne K (.ref (He.ga K "Moving")) (.ref (He.ga K "Term")) = some true := G.kitB_ok (T.fact 192)
theorem nf_Moving_Note : PySem.W.notFirst K (He.ga K "Moving") (.ref (He.ga K "Note")) = true := id (T.fact 193)
theorem nf_Moving_Moving : PySem.W.notFirst K (He.ga K "Moving") (.ref (He.ga K "Moving")) = true := id (T.fact 194)
theorem ki_At_At : PySem.W.kitOne K (.ref (He.ga K "At")) (.ref (He.ga K "At")) = some true := G.kitB_ok (T.fact 195)
theorem nf_At_At : PySem.W.notFirst K (He.ga K "At") (.ref (He.ga K "At")) = true := id (T.fact 196)
theorem ki_At_Below : PySem.W.kitOne K (.ref (He.ga K "At")) (.ref (He.ga K "Below")) = some false := G.kitB_ok (T.fact 197)
theorem nf_At_Below : PySem.W.notFirst K (He.ga K "At") (.ref (He.ga K "Below")) = true := id (T.fact 198)
theorem ki_At_Between : PySem.W.kitOne K (.ref (He.ga K "At")) (.ref (He.ga K "Between")) = some false := G.kitB_ok (T.fact 199)
theorem nf_At_Between : PySem.W.notFirst K (He.ga K "At") (.ref (He.ga K "Between")) = true := id (T.fact 200)
theorem ki_At_Saying : PySem.W.kitOne K (.ref (He.ga K "At")) (.ref (He.ga K "Saying")) = some true := G.kitB_ok (T.fact 201)
theorem ki_At_Comparing : PySem.W.kitOne K (.ref (He.ga K "At")) (.ref (He.ga K "Comparing")) = some true := G.kitB_ok (T.fact 202)
theorem ki_At_Paired : PySem.W.kitOne K (.ref (He.ga K "At")) (.ref (He.ga K "Paired")) = some true := G.kitB_ok (T.fact 203)
theorem ki_At_Levelled : PySem.W.kitOne K (.ref (He.ga K "At")) (.ref (He.ga K "Levelled")) = some false := G.kitB_ok (T.fact 204)
theorem ki_At_Joined : PySem.W.kitOne K (.ref (He.ga K "At")) (.ref (He.ga K "Joined")) = some false := G.kitB_ok (T.fact 205)
theorem nf_At_NoneType : PySem.W.notFirst K (He.ga K "At") (.type "NoneType") = true := id (T.fact 206)
theorem nf_At_tuple : PySem.W.notFirst K (He.ga K "At") (.type "tuple") = true := id (T.fact 207)
theorem nf_At_str : PySem.W.notFirst K (He.ga K "At") (.type "str") = true := id (T.fact 208)
theorem nf_At_bool : PySem.W.notFirst K (He.ga K "At") (.type "bool") = true := id (T.fact 209)
theorem ki_Below_At : PySem.W.kitOne K (.ref (He.ga K "Below")) (.ref (He.ga K "At")) = some false := G.kitB_ok (T.fact 210)
theorem nf_Below_At : PySem.W.notFirst K (He.ga K "Below") (.ref (He.ga K "At")) = true := id (T.fact 211)
theorem ki_Below_Below : PySem.W.kitOne K (.ref (He.ga K "Below")) (.ref (He.ga K "Below")) = some true := G.kitB_ok (T.fact 212)
theorem nf_Below_Below : PySem.W.notFirst K (He.ga K "Below") (.ref (He.ga K "Below")) = true := id (T.fact 213)
theorem ki_Below_Between : PySem.W.kitOne K (.ref (He.ga K "Below")) (.ref (He.ga K "Between")) = some false := G.kitB_ok (T.fact 214)
theorem nf_Below_Between : PySem.W.notFirst K (He.ga K "Below") (.ref (He.ga K "Between")) = true := id (T.fact 215)
theorem ki_Below_Saying : PySem.W.kitOne K (.ref (He.ga K "Below")) (.ref (He.ga K "Saying")) = some true := G.kitB_ok (T.fact 216)
theorem ki_Below_Comparing : PySem.W.kitOne K (.ref (He.ga K "Below")) (.ref (He.ga K "Comparing")) = some true := G.kitB_ok (T.fact 217)
theorem ki_Below_Paired : PySem.W.kitOne K (.ref (He.ga K "Below")) (.ref (He.ga K "Paired")) = some true := G.kitB_ok (T.fact 218)
theorem ki_Below_Levelled : PySem.W.kitOne K (.ref (He.ga K "Below")) (.ref (He.ga K "Levelled")) = some false := G.kitB_ok (T.fact 219)
theorem ki_Below_Joined : PySem.W.kitOne K (.ref (He.ga K "Below")) (.ref (He.ga K "Joined")) = some false := G.kitB_ok (T.fact 220)
theorem nf_Below_NoneType : PySem.W.notFirst K (He.ga K "Below") (.type "NoneType") = true := id (T.fact 221)
theorem nf_Below_tuple : PySem.W.notFirst K (He.ga K "Below") (.type "tuple") = true := id (T.fact 222)
theorem nf_Below_str : PySem.W.notFirst K (He.ga K "Below") (.type "str") = true := id (T.fact 223)
theorem nf_Below_bool : PySem.W.notFirst K (He.ga K "Below") (.type "bool") = true := id (T.fact 224)
theorem ki_Between_At : PySem.W.kitOne K (.ref (He.ga K "Between")) (.ref (He.ga K "At")) = some false := G.kitB_ok (T.fact 225)
theorem nf_Between_At : PySem.W.notFirst K (He.ga K "Between") (.ref (He.ga K "At")) = true := id (T.fact 226)
theorem ki_Between_Below : PySem.W.kitOne K (.ref (He.ga K "Between")) (.ref (He.ga K "Below")) = some false := G.kitB_ok (T.fact 227)
theorem nf_Between_Below : PySem.W.notFirst K (He.ga K "Between") (.ref (He.ga K "Below")) = true := id (T.fact 228)
theorem ki_Between_Between : PySem.W.kitOne K (.ref (He.ga K "Between")) (.ref (He.ga K "Between")) = some true := G.kitB_ok (T.fact 229)
theorem nf_Between_Between : PySem.W.notFirst K (He.ga K "Between") (.ref (He.ga K "Between")) = true := id (T.fact 230)
theorem ki_Between_Saying : PySem.W.kitOne K (.ref (He.ga K "Between")) (.ref (He.ga K "Saying")) = some true := G.kitB_ok (T.fact 231)
theorem ki_Between_Comparing : PySem.W.kitOne K (.ref (He.ga K "Between")) (.ref (He.ga K "Comparing")) = some true := G.kitB_ok (T.fact 232)
theorem ki_Between_Paired : PySem.W.kitOne K (.ref (He.ga K "Between")) (.ref (He.ga K "Paired")) = some false := G.kitB_ok (T.fact 233)
theorem ki_Between_Levelled : PySem.W.kitOne K (.ref (He.ga K "Between")) (.ref (He.ga K "Levelled")) = some false := G.kitB_ok (T.fact 234)
theorem ki_Between_Joined : PySem.W.kitOne K (.ref (He.ga K "Between")) (.ref (He.ga K "Joined")) = some false := G.kitB_ok (T.fact 235)
theorem nf_Between_NoneType : PySem.W.notFirst K (He.ga K "Between") (.type "NoneType") = true := id (T.fact 236)
theorem nf_Between_tuple : PySem.W.notFirst K (He.ga K "Between") (.type "tuple") = true := id (T.fact 237)
theorem nf_Between_str : PySem.W.notFirst K (He.ga K "Between") (.type "str") = true := id (T.fact 238)
theorem nf_Between_bool : PySem.W.notFirst K (He.ga K "Between") (.type "bool") = true := id (T.fact 239)
theorem ki_NoneType_Saying : PySem.W.kitOne K (.type "NoneType") (.ref (He.ga K "Saying")) = some false := G.kitB_ok (T.fact 240)
theorem ki_tuple_Saying : PySem.W.kitOne K (.type "tuple") (.ref (He.ga K "Saying")) = some false := G.kitB_ok (T.fact 241)
theorem ki_str_Saying : PySem.W.kitOne K (.type "str") (.ref (He.ga K "Saying")) = some false := G.kitB_ok (T.fact 242)
theorem ki_bool_Saying : PySem.W.kitOne K (.type "bool") (.ref (He.ga K "Saying")) = some false := G.kitB_ok (T.fact 243)
theorem co_Note : ∃ u, Con K (He.ga K "Note") "MOVES" (.int 0) u := G.conB_ok (T.fact 244)
theorem co_Moving : ∃ u, Con K (He.ga K "Moving") "MOVES" (.int 1) u := G.conB_ok (T.fact 245)
theorem co_At : ∃ u, Con K (He.ga K "At") "WORD" (.str "at") u := G.conSB_ok (T.fact 246)
theorem co_Below : ∃ u, Con K (He.ga K "Below") "WORD" (.str "below") u := G.conSB_ok (T.fact 247)
theorem co_Between : ∃ u, Con K (He.ga K "Between") "WORD" (.str "between") u := G.conSB_ok (T.fact 248)
theorem fn_Saying_call : PySem.W.fnIn K (a_Saying_call K) = true := id (T.fact 249)
theorem mk_Note : Mk K (He.ga K "Note") (a_Term_init K) := (ih_Note_init T) ▸ (xk_Note T)
theorem pr_Note_is_moving : ∃ p, L2.PropOf K (He.ga K "Note") "is_moving" p (a_Term_is_moving K) := ⟨_, (ih_Note_is_moving T) ▸ (xp_Note_is_moving T)⟩
theorem me_Note_note : Meth K (He.ga K "Note") "note" (a_Term_note K) := (ih_Note_note T) ▸ (xm_Note_note T)
theorem ow_Note_eq : G.OwnM K (He.ga K "Note") "__eq__" (a_Term_eq K) := (ih_Note_eq T) ▸ (xo_Note_eq T)
theorem ne_Note : G.NeM K (He.ga K "Note") (a_Term_eq K) := (ih_Note_eq T) ▸ (xn_Note T)
theorem mk_Moving : Mk K (He.ga K "Moving") (a_Term_init K) := (ih_Moving_init T) ▸ (xk_Moving T)
theorem pr_Moving_is_moving : ∃ p, L2.PropOf K (He.ga K "Moving") "is_moving" p (a_Term_is_moving K) := ⟨_, (ih_Moving_is_moving T) ▸ (xp_Moving_is_moving T)⟩
theorem me_Moving_note : Meth K (He.ga K "Moving") "note" (a_Term_note K) := (ih_Moving_note T) ▸ (xm_Moving_note T)
theorem ow_Moving_eq : G.OwnM K (He.ga K "Moving") "__eq__" (a_Term_eq K) := (ih_Moving_eq T) ▸ (xo_Moving_eq T)
theorem ne_Moving : G.NeM K (He.ga K "Moving") (a_Term_eq K) := (ih_Moving_eq T) ▸ (xn_Moving T)
theorem me_At_parts : Meth K (He.ga K "At") "parts" (a_Comparing_parts K) := (ih_At_parts T) ▸ (xm_At_parts T)
theorem me_At_keys_of : Meth K (He.ga K "At") "keys_of" (a_Comparing_keys_of K) := (ih_At_keys_of T) ▸ (xm_At_keys_of T)
theorem pr_At_deep : ∃ p, L2.PropOf K (He.ga K "At") "deep" p (a_Saying_deep K) := ⟨_, (ih_At_deep T) ▸ (xp_At_deep T)⟩
theorem ow_At_call : G.OwnM K (He.ga K "At") "__call__" (a_Saying_call K) := (ih_At_call T) ▸ (xo_At_call T)
theorem ow_At_eq : G.OwnM K (He.ga K "At") "__eq__" (a_Saying_eq K) := (ih_At_eq T) ▸ (xo_At_eq T)
theorem ne_At : G.NeM K (He.ga K "At") (a_Saying_eq K) := (ih_At_eq T) ▸ (xn_At T)
theorem me_At_arguments : Meth K (He.ga K "At") "arguments" (a_Paired_arguments K) := (ih_At_arguments T) ▸ (xm_At_arguments T)
theorem me_Below_parts : Meth K (He.ga K "Below") "parts" (a_Comparing_parts K) := (ih_Below_parts T) ▸ (xm_Below_parts T)
theorem me_Below_keys_of : Meth K (He.ga K "Below") "keys_of" (a_Comparing_keys_of K) := (ih_Below_keys_of T) ▸ (xm_Below_keys_of T)
theorem pr_Below_deep : ∃ p, L2.PropOf K (He.ga K "Below") "deep" p (a_Saying_deep K) := ⟨_, (ih_Below_deep T) ▸ (xp_Below_deep T)⟩
theorem ow_Below_call : G.OwnM K (He.ga K "Below") "__call__" (a_Saying_call K) := (ih_Below_call T) ▸ (xo_Below_call T)
theorem ow_Below_eq : G.OwnM K (He.ga K "Below") "__eq__" (a_Saying_eq K) := (ih_Below_eq T) ▸ (xo_Below_eq T)
theorem ne_Below : G.NeM K (He.ga K "Below") (a_Saying_eq K) := (ih_Below_eq T) ▸ (xn_Below T)
theorem me_Below_arguments : Meth K (He.ga K "Below") "arguments" (a_Paired_arguments K) := (ih_Below_arguments T) ▸ (xm_Below_arguments T)
theorem me_Between_parts : Meth K (He.ga K "Between") "parts" (a_Comparing_parts K) := (ih_Between_parts T) ▸ (xm_Between_parts T)
theorem me_Between_keys_of : Meth K (He.ga K "Between") "keys_of" (a_Comparing_keys_of K) := (ih_Between_keys_of T) ▸ (xm_Between_keys_of T)
theorem pr_Between_deep : ∃ p, L2.PropOf K (He.ga K "Between") "deep" p (a_Saying_deep K) := ⟨_, (ih_Between_deep T) ▸ (xp_Between_deep T)⟩
theorem ow_Between_call : G.OwnM K (He.ga K "Between") "__call__" (a_Saying_call K) := (ih_Between_call T) ▸ (xo_Between_call T)
theorem ow_Between_eq : G.OwnM K (He.ga K "Between") "__eq__" (a_Saying_eq K) := (ih_Between_eq T) ▸ (xo_Between_eq T)
theorem ne_Between : G.NeM K (He.ga K "Between") (a_Saying_eq K) := (ih_Between_eq T) ▸ (xn_Between T)
theorem cf_Comparing_init : G.CFn K (He.ga K "Comparing") (.type "type") "__init__" (a_Saying_init K) := (ih_Comparing_init T) ▸ (xf_Comparing_init T)
theorem F_is_integer : FunD K "is_integer" "is_integer" (defArgs s_is_integer) (defBody s_is_integer) (defScope s_is_integer) [] [] (a_is_integer K) (G.fdOf K (a_is_integer K)) := T.def_ 0
theorem bi_is_integer : Binds K (G.fdOf K (a_is_integer K)) ["value"] [] := (F_is_integer T).bindsN fun _ _ _ _ _ _ us hl => match us, hl with | [_], _ => rfl
theorem F_is_between : FunD K "is_between" "is_between" (defArgs s_is_between) (defBody s_is_between) (defScope s_is_between) [] [] (a_is_between K) (G.fdOf K (a_is_between K)) := T.def_ 1
theorem bi_is_between : Binds K (G.fdOf K (a_is_between K)) ["value", "least", "most"] [] := (F_is_between T).bindsN fun _ _ _ _ _ _ us hl => match us, hl with | [_, _, _], _ => rfl
theorem F_common_divisor : FunD K "common_divisor" "common_divisor" (defArgs s_common_divisor) (defBody s_common_divisor) (defScope s_common_divisor) [] [] (a_common_divisor K) (G.fdOf K (a_common_divisor K)) := T.def_ 2
theorem bi_common_divisor : Binds K (G.fdOf K (a_common_divisor K)) ["one", "other"] [] := (F_common_divisor T).bindsN fun _ _ _ _ _ _ us hl => match us, hl with | [_, _], _ => rfl
theorem F_parts_of : FunD K "parts_of" "parts_of" (defArgs s_parts_of) (defBody s_parts_of) (defScope s_parts_of) [] [] (a_parts_of K) (G.fdOf K (a_parts_of K)) := T.def_ 3
theorem bi_parts_of : Binds K (G.fdOf K (a_parts_of K)) ["number"] [] := (F_parts_of T).bindsN fun _ _ _ _ _ _ us hl => match us, hl with | [_], _ => rfl
theorem F_need_divisor : FunD K "need_divisor" "need_divisor" (defArgs s_need_divisor) (defBody s_need_divisor) (defScope s_need_divisor) [] [] (a_need_divisor K) (G.fdOf K (a_need_divisor K)) := T.def_ 4
theorem bi_need_divisor : Binds K (G.fdOf K (a_need_divisor K)) ["number"] [] := (F_need_divisor T).bindsN fun _ _ _ _ _ _ us hl => match us, hl with | [_], _ => rfl
theorem F_Ratio_init : FunD K "__init__" "Ratio.__init__" (defArgs s_Ratio_init) (defBody s_Ratio_init) (defScope s_Ratio_init) [.int 1] [] (a_Ratio_init K) (G.fdOf K (a_Ratio_init K)) := T.def_ 5
theorem bi_Ratio_init : Binds K (G.fdOf K (a_Ratio_init K)) ["self", "top", "bottom"] [] := by
  obtain ⟨ds, hd, hb⟩ := (F_Ratio_init T).binds1 (ps := ["self", "top", "bottom"]) 3 1 (by simp) rfl fun T kV doc pm an cdv ct us its h1 h2 => match us, its, h1, h2 with | [_, _, _], [_], _, _ => ⟨_, rfl, rfl⟩
  cases hd
  exact hb
theorem bid_Ratio_init : ∃ ds, Vals [.int 1] ds ∧ Binds K (G.fdOf K (a_Ratio_init K)) ["self", "top", "bottom"] ds :=
  (F_Ratio_init T).binds1 (ps := ["self", "top", "bottom"]) 2 0 (by simp) rfl fun T kV doc pm an cdv ct us its h1 h2 => match us, its, h1, h2 with | [_, _], [_], _, _ => ⟨_, rfl, rfl⟩
theorem F_Ratio_is_number : FunD K "is_number" "Ratio.is_number" (defArgs s_Ratio_is_number) (defBody s_Ratio_is_number) (defScope s_Ratio_is_number) [] [] (a_Ratio_is_number K) (G.fdOf K (a_Ratio_is_number K)) := T.def_ 6
theorem bi_Ratio_is_number : Binds K (G.fdOf K (a_Ratio_is_number K)) ["value"] [] := (F_Ratio_is_number T).bindsN fun _ _ _ _ _ _ us hl => match us, hl with | [_], _ => rfl
theorem F_Ratio_is_fifth : FunD K "is_fifth" "Ratio.is_fifth" (defArgs s_Ratio_is_fifth) (defBody s_Ratio_is_fifth) (defScope s_Ratio_is_fifth) [] [] (a_Ratio_is_fifth K) (G.fdOf K (a_Ratio_is_fifth K)) := T.def_ 7
theorem bi_Ratio_is_fifth : Binds K (G.fdOf K (a_Ratio_is_fifth K)) ["value"] [] := (F_Ratio_is_fifth T).bindsN fun _ _ _ _ _ _ us hl => match us, hl with | [_], _ => rfl
theorem F_is_fifth : FunD K "is_fifth" "is_fifth" (defArgs s_is_fifth) (defBody s_is_fifth) (defScope s_is_fifth) [] [] (a_is_fifth K) (G.fdOf K (a_is_fifth K)) := T.def_ 8
theorem bi_is_fifth : Binds K (G.fdOf K (a_is_fifth K)) ["value"] [] := (F_is_fifth T).bindsN fun _ _ _ _ _ _ us hl => match us, hl with | [_], _ => rfl
theorem F_need_fifth : FunD K "need_fifth" "need_fifth" (defArgs s_need_fifth) (defBody s_need_fifth) (defScope s_need_fifth) [] [] (a_need_fifth K) (G.fdOf K (a_need_fifth K)) := T.def_ 9
theorem bi_need_fifth : Binds K (G.fdOf K (a_need_fifth K)) ["value"] [] := (F_need_fifth T).bindsN fun _ _ _ _ _ _ us hl => match us, hl with | [_], _ => rfl
theorem F_key_of : FunD K "key_of" "key_of" (defArgs s_key_of) (defBody s_key_of) (defScope s_key_of) [] [] (a_key_of K) (G.fdOf K (a_key_of K)) := T.def_ 10
theorem bi_key_of : Binds K (G.fdOf K (a_key_of K)) ["number", "fifth"] [] := (F_key_of T).bindsN fun _ _ _ _ _ _ us hl => match us, hl with | [_, _], _ => rfl
theorem F_marks_with : FunD K "marks_with" "marks_with" (defArgs s_marks_with) (defBody s_marks_with) (defScope s_marks_with) [] [] (a_marks_with K) (G.fdOf K (a_marks_with K)) := T.def_ 11
theorem bi_marks_with : Binds K (G.fdOf K (a_marks_with K)) ["numbers"] [] := (F_marks_with T).bindsN fun _ _ _ _ _ _ us hl => match us, hl with | [_], _ => rfl
theorem F_marks_of_pair : FunD K "marks_of_pair" "marks_of_pair" (defArgs s_marks_of_pair) (defBody s_marks_of_pair) (defScope s_marks_of_pair) [] [] (a_marks_of_pair K) (G.fdOf K (a_marks_of_pair K)) := T.def_ 12
theorem bi_marks_of_pair : Binds K (G.fdOf K (a_marks_of_pair K)) ["one", "other", "has_ends"] [] := (F_marks_of_pair T).bindsN fun _ _ _ _ _ _ us hl => match us, hl with | [_, _, _], _ => rfl
theorem F_marks_of_three : FunD K "marks_of_three" "marks_of_three" (defArgs s_marks_of_three) (defBody s_marks_of_three) (defScope s_marks_of_three) [] [] (a_marks_of_three K) (G.fdOf K (a_marks_of_three K)) := T.def_ 13
theorem bi_marks_of_three : Binds K (G.fdOf K (a_marks_of_three K)) ["terms"] [] := (F_marks_of_three T).bindsN fun _ _ _ _ _ _ us hl => match us, hl with | [_], _ => rfl
theorem F_need_note : FunD K "need_note" "need_note" (defArgs s_need_note) (defBody s_need_note) (defScope s_need_note) [] [] (a_need_note K) (G.fdOf K (a_need_note K)) := T.def_ 14
theorem bi_need_note : Binds K (G.fdOf K (a_need_note K)) ["n"] [] := (F_need_note T).bindsN fun _ _ _ _ _ _ us hl => match us, hl with | [_], _ => rfl
theorem F_Term_init : FunD K "__init__" "Term.__init__" (defArgs s_Term_init) (defBody s_Term_init) (defScope s_Term_init) [] [] (a_Term_init K) (G.fdOf K (a_Term_init K)) := T.def_ 15
theorem bi_Term_init : Binds K (G.fdOf K (a_Term_init K)) ["self", "number"] [] := (F_Term_init T).bindsN fun _ _ _ _ _ _ us hl => match us, hl with | [_, _], _ => rfl
theorem F_Term_is_moving : FunD K "is_moving" "Term.is_moving" (defArgs s_Term_is_moving) (defBody s_Term_is_moving) (defScope s_Term_is_moving) [] [] (a_Term_is_moving K) (G.fdOf K (a_Term_is_moving K)) := T.def_ 16
theorem bi_Term_is_moving : Binds K (G.fdOf K (a_Term_is_moving K)) ["self"] [] := (F_Term_is_moving T).bindsN fun _ _ _ _ _ _ us hl => match us, hl with | [_], _ => rfl
theorem F_Term_note : FunD K "note" "Term.note" (defArgs s_Term_note) (defBody s_Term_note) (defScope s_Term_note) [] [] (a_Term_note K) (G.fdOf K (a_Term_note K)) := T.def_ 17
theorem bi_Term_note : Binds K (G.fdOf K (a_Term_note K)) ["self", "n"] [] := (F_Term_note T).bindsN fun _ _ _ _ _ _ us hl => match us, hl with | [_, _], _ => rfl
theorem F_Term_eq : FunD K "__eq__" "Term.__eq__" (defArgs s_Term_eq) (defBody s_Term_eq) (defScope s_Term_eq) [] [] (a_Term_eq K) (G.fdOf K (a_Term_eq K)) := T.def_ 18
theorem bi_Term_eq : Binds K (G.fdOf K (a_Term_eq K)) ["self", "other"] [] := (F_Term_eq T).bindsN fun _ _ _ _ _ _ us hl => match us, hl with | [_, _], _ => rfl
theorem F_need_term : FunD K "need_term" "need_term" (defArgs s_need_term) (defBody s_need_term) (defScope s_need_term) [] [] (a_need_term K) (G.fdOf K (a_need_term K)) := T.def_ 19
theorem bi_need_term : Binds K (G.fdOf K (a_need_term K)) ["value", "part"] [] := (F_need_term T).bindsN fun _ _ _ _ _ _ us hl => match us, hl with | [_, _], _ => rfl
theorem F_Saying_init : FunD K "__init__" "Saying.__init__" (defArgs s_Saying_init) (defBody s_Saying_init) (defScope s_Saying_init) [] [] (a_Saying_init K) (G.fdOf K (a_Saying_init K)) := T.def_ 20
theorem bi_Saying_init : Binds K (G.fdOf K (a_Saying_init K)) ["self", "marks", "comparisons", "deep"] [] := (F_Saying_init T).bindsN fun _ _ _ _ _ _ us hl => match us, hl with | [_, _, _, _], _ => rfl
theorem F_Saying_deep : FunD K "deep" "Saying.deep" (defArgs s_Saying_deep) (defBody s_Saying_deep) (defScope s_Saying_deep) [] [] (a_Saying_deep K) (G.fdOf K (a_Saying_deep K)) := T.def_ 21
theorem bi_Saying_deep : Binds K (G.fdOf K (a_Saying_deep K)) ["self"] [] := (F_Saying_deep T).bindsN fun _ _ _ _ _ _ us hl => match us, hl with | [_], _ => rfl
theorem F_Saying_call : FunD K "__call__" "Saying.__call__" (defArgs s_Saying_call) (defBody s_Saying_call) (defScope s_Saying_call) [] [] (a_Saying_call K) (G.fdOf K (a_Saying_call K)) := T.def_ 22
theorem bi_Saying_call : Binds K (G.fdOf K (a_Saying_call K)) ["self", "n", "fifth"] [] := (F_Saying_call T).bindsN fun _ _ _ _ _ _ us hl => match us, hl with | [_, _, _], _ => rfl
theorem F_Saying_eq : FunD K "__eq__" "Saying.__eq__" (defArgs s_Saying_eq) (defBody s_Saying_eq) (defScope s_Saying_eq) [] [] (a_Saying_eq K) (G.fdOf K (a_Saying_eq K)) := T.def_ 23
theorem bi_Saying_eq : Binds K (G.fdOf K (a_Saying_eq K)) ["self", "other"] [] := (F_Saying_eq T).bindsN fun _ _ _ _ _ _ us hl => match us, hl with | [_, _], _ => rfl
theorem F_Paired_arguments : FunD K "arguments" "Paired.arguments" (defArgs s_Paired_arguments) (defBody s_Paired_arguments) (defScope s_Paired_arguments) [] [] (a_Paired_arguments K) (G.fdOf K (a_Paired_arguments K)) := T.def_ 24
theorem bi_Paired_arguments : Binds K (G.fdOf K (a_Paired_arguments K)) ["self"] [] := (F_Paired_arguments T).bindsN fun _ _ _ _ _ _ us hl => match us, hl with | [_], _ => rfl
theorem F_Comparing_parts : FunD K "parts" "Comparing.parts" (defArgs s_Comparing_parts) (defBody s_Comparing_parts) (defScope s_Comparing_parts) [] [] (a_Comparing_parts K) (G.fdOf K (a_Comparing_parts K)) := T.def_ 25
theorem bi_Comparing_parts : Binds K (G.fdOf K (a_Comparing_parts K)) ["self"] [] := (F_Comparing_parts T).bindsN fun _ _ _ _ _ _ us hl => match us, hl with | [_], _ => rfl
theorem F_Comparing_keys_of : FunD K "keys_of" "Comparing.keys_of" (defArgs s_Comparing_keys_of) (defBody s_Comparing_keys_of) (defScope s_Comparing_keys_of) [] [] (a_Comparing_keys_of K) (G.fdOf K (a_Comparing_keys_of K)) := T.def_ 26
theorem bi_Comparing_keys_of : Binds K (G.fdOf K (a_Comparing_keys_of K)) ["self", "n", "fifth"] [] := (F_Comparing_keys_of T).bindsN fun _ _ _ _ _ _ us hl => match us, hl with | [_, _, _], _ => rfl
theorem F_At_init : FunD K "__init__" "At.__init__" (defArgs s_At_init) (defBody s_At_init) (defScope s_At_init) [] [] (a_At_init K) (G.fdOf K (a_At_init K)) := T.def_ 27
theorem bi_At_init : Binds K (G.fdOf K (a_At_init K)) ["self", "one", "other"] [] := (F_At_init T).bindsN fun _ _ _ _ _ _ us hl => match us, hl with | [_, _, _], _ => rfl
theorem F_At_holds : FunD K "holds" "At.holds" (defArgs s_At_holds) (defBody s_At_holds) (defScope s_At_holds) [] [] (a_At_holds K) (G.fdOf K (a_At_holds K)) := T.def_ 28
theorem bi_At_holds : Binds K (G.fdOf K (a_At_holds K)) ["self", "n", "fifth"] [] := (F_At_holds T).bindsN fun _ _ _ _ _ _ us hl => match us, hl with | [_, _, _], _ => rfl
theorem F_Below_init : FunD K "__init__" "Below.__init__" (defArgs s_Below_init) (defBody s_Below_init) (defScope s_Below_init) [] [] (a_Below_init K) (G.fdOf K (a_Below_init K)) := T.def_ 29
theorem bi_Below_init : Binds K (G.fdOf K (a_Below_init K)) ["self", "one", "other"] [] := (F_Below_init T).bindsN fun _ _ _ _ _ _ us hl => match us, hl with | [_, _, _], _ => rfl
theorem F_Below_holds : FunD K "holds" "Below.holds" (defArgs s_Below_holds) (defBody s_Below_holds) (defScope s_Below_holds) [] [] (a_Below_holds K) (G.fdOf K (a_Below_holds K)) := T.def_ 30
theorem bi_Below_holds : Binds K (G.fdOf K (a_Below_holds K)) ["self", "n", "fifth"] [] := (F_Below_holds T).bindsN fun _ _ _ _ _ _ us hl => match us, hl with | [_, _, _], _ => rfl
theorem F_Between_init : FunD K "__init__" "Between.__init__" (defArgs s_Between_init) (defBody s_Between_init) (defScope s_Between_init) [] [] (a_Between_init K) (G.fdOf K (a_Between_init K)) := T.def_ 31
theorem bi_Between_init : Binds K (G.fdOf K (a_Between_init K)) ["self", "first", "inside", "last"] [] := (F_Between_init T).bindsN fun _ _ _ _ _ _ us hl => match us, hl with | [_, _, _, _], _ => rfl
theorem F_Between_arguments : FunD K "arguments" "Between.arguments" (defArgs s_Between_arguments) (defBody s_Between_arguments) (defScope s_Between_arguments) [] [] (a_Between_arguments K) (G.fdOf K (a_Between_arguments K)) := T.def_ 32
theorem bi_Between_arguments : Binds K (G.fdOf K (a_Between_arguments K)) ["self"] [] := (F_Between_arguments T).bindsN fun _ _ _ _ _ _ us hl => match us, hl with | [_], _ => rfl
theorem F_Between_holds : FunD K "holds" "Between.holds" (defArgs s_Between_holds) (defBody s_Between_holds) (defScope s_Between_holds) [] [] (a_Between_holds K) (G.fdOf K (a_Between_holds K)) := T.def_ 33
theorem bi_Between_holds : Binds K (G.fdOf K (a_Between_holds K)) ["self", "n", "fifth"] [] := (F_Between_holds T).bindsN fun _ _ _ _ _ _ us hl => match us, hl with | [_, _, _], _ => rfl
theorem F_law_pen : FunD K "_law_pen" "_law_pen" (defArgs s_law_pen) (defBody s_law_pen) (defScope s_law_pen) [] [] (a_law_pen K) (G.fdOf K (a_law_pen K)) := T.def_ 34
theorem bi_law_pen : Binds K (G.fdOf K (a_law_pen K)) ["_law_script"] [] := (F_law_pen T).bindsN fun _ _ _ _ _ _ us hl => match us, hl with | [_], _ => rfl
theorem F_law_draw : FunD K "_law_draw" "_law_draw" (defArgs s_law_draw) (defBody s_law_draw) (defScope s_law_draw) [] [] (a_law_draw K) (G.fdOf K (a_law_draw K)) := T.def_ 35
theorem bi_law_draw : Binds K (G.fdOf K (a_law_draw K)) ["_law_pen_here", "_law_many"] [] := (F_law_draw T).bindsN fun _ _ _ _ _ _ us hl => match us, hl with | [_, _], _ => rfl
theorem F_law_pick : FunD K "_law_pick" "_law_pick" (defArgs s_law_pick) (defBody s_law_pick) (defScope s_law_pick) [] [] (a_law_pick K) (G.fdOf K (a_law_pick K)) := T.def_ 36
theorem bi_law_pick : Binds K (G.fdOf K (a_law_pick K)) ["_law_pen_here", "_law_some"] [] := (F_law_pick T).bindsN fun _ _ _ _ _ _ us hl => match us, hl with | [_, _], _ => rfl
theorem F_law_fraction : FunD K "_law_fraction" "_law_fraction" (defArgs s_law_fraction) (defBody s_law_fraction) (defScope s_law_fraction) [] [] (a_law_fraction K) (G.fdOf K (a_law_fraction K)) := T.def_ 37
theorem bi_law_fraction : Binds K (G.fdOf K (a_law_fraction K)) ["_law_pen_here"] [] := (F_law_fraction T).bindsN fun _ _ _ _ _ _ us hl => match us, hl with | [_], _ => rfl
theorem F_law_number : FunD K "_law_number" "_law_number" (defArgs s_law_number) (defBody s_law_number) (defScope s_law_number) [] [] (a_law_number K) (G.fdOf K (a_law_number K)) := T.def_ 38
theorem bi_law_number : Binds K (G.fdOf K (a_law_number K)) ["_law_pen_here"] [] := (F_law_number T).bindsN fun _ _ _ _ _ _ us hl => match us, hl with | [_], _ => rfl
theorem F_law_term : FunD K "_law_term" "_law_term" (defArgs s_law_term) (defBody s_law_term) (defScope s_law_term) [] [] (a_law_term K) (G.fdOf K (a_law_term K)) := T.def_ 39
theorem bi_law_term : Binds K (G.fdOf K (a_law_term K)) ["_law_pen_here", "_law_far"] [] := (F_law_term T).bindsN fun _ _ _ _ _ _ us hl => match us, hl with | [_, _], _ => rfl
theorem F_law_real_term : FunD K "_law_real_term" "_law_real_term" (defArgs s_law_real_term) (defBody s_law_real_term) (defScope s_law_real_term) [] [] (a_law_real_term K) (G.fdOf K (a_law_real_term K)) := T.def_ 40
theorem bi_law_real_term : Binds K (G.fdOf K (a_law_real_term K)) ["_law_term_here"] [] := (F_law_real_term T).bindsN fun _ _ _ _ _ _ us hl => match us, hl with | [_], _ => rfl
theorem F_law_key : FunD K "_law_key" "_law_key" (defArgs s_law_key) (defBody s_law_key) (defScope s_law_key) [] [] (a_law_key K) (G.fdOf K (a_law_key K)) := T.def_ 41
theorem bi_law_key : Binds K (G.fdOf K (a_law_key K)) ["_law_term_here", "_law_n", "_law_top", "_law_bottom"] [] := (F_law_key T).bindsN fun _ _ _ _ _ _ us hl => match us, hl with | [_, _, _, _], _ => rfl
theorem F_law_holds : FunD K "_law_holds" "_law_holds" (defArgs s_law_holds) (defBody s_law_holds) (defScope s_law_holds) [] [] (a_law_holds K) (G.fdOf K (a_law_holds K)) := T.def_ 42
theorem bi_law_holds : Binds K (G.fdOf K (a_law_holds K)) ["_law_told", "_law_n", "_law_top", "_law_bottom"] [] := (F_law_holds T).bindsN fun _ _ _ _ _ _ us hl => match us, hl with | [_, _, _, _], _ => rfl
theorem F_law_real : FunD K "_law_real" "_law_real" (defArgs s_law_real) (defBody s_law_real) (defScope s_law_real) [] [] (a_law_real K) (G.fdOf K (a_law_real K)) := T.def_ 43
theorem bi_law_real : Binds K (G.fdOf K (a_law_real K)) ["_law_told"] [] := (F_law_real T).bindsN fun _ _ _ _ _ _ us hl => match us, hl with | [_], _ => rfl
theorem F_law_compared : FunD K "_law_compared" "_law_compared" (defArgs s_law_compared) (defBody s_law_compared) (defScope s_law_compared) [] [] (a_law_compared K) (G.fdOf K (a_law_compared K)) := T.def_ 44
theorem bi_law_compared : Binds K (G.fdOf K (a_law_compared K)) ["_law_pen_here", "_law_far"] [] := (F_law_compared T).bindsN fun _ _ _ _ _ _ us hl => match us, hl with | [_, _], _ => rfl
theorem F_law_kept_right : FunD K "_law_kept_right" "_law_kept_right" (defArgs s_law_kept_right) (defBody s_law_kept_right) (defScope s_law_kept_right) [] [] (a_law_kept_right K) (G.fdOf K (a_law_kept_right K)) := T.def_ 45
theorem bi_law_kept_right : Binds K (G.fdOf K (a_law_kept_right K)) ["_law_made", "_law_told"] [] := (F_law_kept_right T).bindsN fun _ _ _ _ _ _ us hl => match us, hl with | [_, _], _ => rfl
theorem F_law_near_right : FunD K "_law_near_right" "_law_near_right" (defArgs s_law_near_right) (defBody s_law_near_right) (defScope s_law_near_right) [] [] (a_law_near_right K) (G.fdOf K (a_law_near_right K)) := T.def_ 46
theorem bi_law_near_right : Binds K (G.fdOf K (a_law_near_right K)) ["_law_pen_here", "_law_made", "_law_told"] [] := (F_law_near_right T).bindsN fun _ _ _ _ _ _ us hl => match us, hl with | [_, _, _], _ => rfl
theorem F_law_far_right : FunD K "_law_far_right" "_law_far_right" (defArgs s_law_far_right) (defBody s_law_far_right) (defScope s_law_far_right) [] [] (a_law_far_right K) (G.fdOf K (a_law_far_right K)) := T.def_ 47
theorem bi_law_far_right : Binds K (G.fdOf K (a_law_far_right K)) ["_law_pen_here", "_law_made", "_law_told"] [] := (F_law_far_right T).bindsN fun _ _ _ _ _ _ us hl => match us, hl with | [_, _, _], _ => rfl
theorem F_law : FunD K "law" "law" (defArgs s_law) (defBody s_law) (defScope s_law) [] [] (a_law K) (G.fdOf K (a_law K)) := T.def_ 48
theorem bi_law : Binds K (G.fdOf K (a_law K)) ["_law_script"] [] := (F_law T).bindsN fun _ _ _ _ _ _ us hl => match us, hl with | [_], _ => rfl
end
theorem sc_is_integer : FnScope ["value"] ["value"] (defScope s_is_integer) := ⟨rfl, rfl, rfl, by decide +kernel, rfl, by decide +kernel, by decide +kernel⟩
theorem sc_is_between : FnScope ["value", "least", "most"] ["value", "least", "most"] (defScope s_is_between) := ⟨rfl, rfl, rfl, by decide +kernel, rfl, by decide +kernel, by decide +kernel⟩
theorem sc_common_divisor : FnScope ["one", "other"] ["one", "other"] (defScope s_common_divisor) := ⟨rfl, rfl, rfl, by decide +kernel, rfl, by decide +kernel, by decide +kernel⟩
theorem sc_parts_of : FnScope ["number"] ["number"] (defScope s_parts_of) := ⟨rfl, rfl, rfl, by decide +kernel, rfl, by decide +kernel, by decide +kernel⟩
theorem sc_need_divisor : FnScope ["number"] ["number"] (defScope s_need_divisor) := ⟨rfl, rfl, rfl, by decide +kernel, rfl, by decide +kernel, by decide +kernel⟩
theorem sc_Ratio_init : FnScope ["self", "top", "bottom", "shared"] ["self", "top", "bottom"] (defScope s_Ratio_init) := ⟨rfl, rfl, rfl, by decide +kernel, rfl, by decide +kernel, by decide +kernel⟩
theorem sc_Ratio_is_number : FnScope ["value"] ["value"] (defScope s_Ratio_is_number) := ⟨rfl, rfl, rfl, by decide +kernel, rfl, by decide +kernel, by decide +kernel⟩
theorem sc_Ratio_is_fifth : FnScope ["value"] ["value"] (defScope s_Ratio_is_fifth) := ⟨rfl, rfl, rfl, by decide +kernel, rfl, by decide +kernel, by decide +kernel⟩
theorem sc_is_fifth : FnScope ["value"] ["value"] (defScope s_is_fifth) := ⟨rfl, rfl, rfl, by decide +kernel, rfl, by decide +kernel, by decide +kernel⟩
theorem sc_need_fifth : FnScope ["value"] ["value"] (defScope s_need_fifth) := ⟨rfl, rfl, rfl, by decide +kernel, rfl, by decide +kernel, by decide +kernel⟩
theorem sc_key_of : FnScope ["number", "fifth"] ["number", "fifth"] (defScope s_key_of) := ⟨rfl, rfl, rfl, by decide +kernel, rfl, by decide +kernel, by decide +kernel⟩
theorem sc_marks_with : FnScope ["numbers", "number"] ["numbers"] (defScope s_marks_with) := ⟨rfl, rfl, rfl, by decide +kernel, rfl, by decide +kernel, by decide +kernel⟩
theorem sc_marks_of_pair : FnScope ["one", "other", "has_ends", "b", "c", "moving", "fixed"] ["one", "other", "has_ends"] (defScope s_marks_of_pair) := ⟨rfl, rfl, rfl, by decide +kernel, rfl, by decide +kernel, by decide +kernel⟩
theorem sc_marks_of_three : FnScope ["terms", "moving", "term", "fixed", "number", "more"] ["terms"] (defScope s_marks_of_three) := ⟨rfl, rfl, rfl, by decide +kernel, rfl, by decide +kernel, by decide +kernel⟩
theorem sc_need_note : FnScope ["n"] ["n"] (defScope s_need_note) := ⟨rfl, rfl, rfl, by decide +kernel, rfl, by decide +kernel, by decide +kernel⟩
theorem sc_Term_init : FnScope ["self", "number"] ["self", "number"] (defScope s_Term_init) := ⟨rfl, rfl, rfl, by decide +kernel, rfl, by decide +kernel, by decide +kernel⟩
theorem sc_Term_is_moving : FnScope ["self"] ["self"] (defScope s_Term_is_moving) := ⟨rfl, rfl, rfl, by decide +kernel, rfl, by decide +kernel, by decide +kernel⟩
theorem sc_Term_note : FnScope ["self", "n"] ["self", "n"] (defScope s_Term_note) := ⟨rfl, rfl, rfl, by decide +kernel, rfl, by decide +kernel, by decide +kernel⟩
theorem sc_Term_eq : FnScope ["self", "other"] ["self", "other"] (defScope s_Term_eq) := ⟨rfl, rfl, rfl, by decide +kernel, rfl, by decide +kernel, by decide +kernel⟩
theorem sc_need_term : FnScope ["value", "part"] ["value", "part"] (defScope s_need_term) := ⟨rfl, rfl, rfl, by decide +kernel, rfl, by decide +kernel, by decide +kernel⟩
theorem sc_Saying_init : FnScope ["self", "marks", "comparisons", "deep"] ["self", "marks", "comparisons", "deep"] (defScope s_Saying_init) := ⟨rfl, rfl, rfl, by decide +kernel, rfl, by decide +kernel, by decide +kernel⟩
theorem sc_Saying_deep : FnScope ["self"] ["self"] (defScope s_Saying_deep) := ⟨rfl, rfl, rfl, by decide +kernel, rfl, by decide +kernel, by decide +kernel⟩
theorem sc_Saying_call : FnScope ["self", "n", "fifth"] ["self", "n", "fifth"] (defScope s_Saying_call) := ⟨rfl, rfl, rfl, by decide +kernel, rfl, by decide +kernel, by decide +kernel⟩
theorem sc_Saying_eq : FnScope ["self", "other"] ["self", "other"] (defScope s_Saying_eq) := ⟨rfl, rfl, rfl, by decide +kernel, rfl, by decide +kernel, by decide +kernel⟩
theorem sc_Paired_arguments : FnScope ["self"] ["self"] (defScope s_Paired_arguments) := ⟨rfl, rfl, rfl, by decide +kernel, rfl, by decide +kernel, by decide +kernel⟩
theorem sg_Comparing_parts : GScope ["self"] ["self"] (defScope s_Comparing_parts) := ⟨rfl, rfl, rfl, by decide +kernel, rfl, by decide +kernel, by decide +kernel⟩
theorem sc_Comparing_keys_of : FnScope ["self", "n", "fifth", "term"] ["self", "n", "fifth"] (defScope s_Comparing_keys_of) := ⟨rfl, rfl, rfl, by decide +kernel, rfl, by decide +kernel, by decide +kernel⟩
theorem sc_At_init : FnScope ["self", "one", "other"] ["self", "one", "other"] (defScope s_At_init) := ⟨rfl, rfl, rfl, by decide +kernel, rfl, by decide +kernel, by decide +kernel⟩
theorem sc_At_holds : FnScope ["self", "n", "fifth", "one", "other"] ["self", "n", "fifth"] (defScope s_At_holds) := ⟨rfl, rfl, rfl, by decide +kernel, rfl, by decide +kernel, by decide +kernel⟩
theorem sc_Below_init : FnScope ["self", "one", "other"] ["self", "one", "other"] (defScope s_Below_init) := ⟨rfl, rfl, rfl, by decide +kernel, rfl, by decide +kernel, by decide +kernel⟩
theorem sc_Below_holds : FnScope ["self", "n", "fifth", "one", "other"] ["self", "n", "fifth"] (defScope s_Below_holds) := ⟨rfl, rfl, rfl, by decide +kernel, rfl, by decide +kernel, by decide +kernel⟩
theorem sc_Between_init : FnScope ["self", "first", "inside", "last"] ["self", "first", "inside", "last"] (defScope s_Between_init) := ⟨rfl, rfl, rfl, by decide +kernel, rfl, by decide +kernel, by decide +kernel⟩
theorem sc_Between_arguments : FnScope ["self"] ["self"] (defScope s_Between_arguments) := ⟨rfl, rfl, rfl, by decide +kernel, rfl, by decide +kernel, by decide +kernel⟩
theorem sc_Between_holds : FnScope ["self", "n", "fifth", "begin", "between", "end"] ["self", "n", "fifth"] (defScope s_Between_holds) := ⟨rfl, rfl, rfl, by decide +kernel, rfl, by decide +kernel, by decide +kernel⟩
theorem sc_law_pen : FnScope ["_law_script"] ["_law_script"] (defScope s_law_pen) := ⟨rfl, rfl, rfl, by decide +kernel, rfl, by decide +kernel, by decide +kernel⟩
theorem sc_law_draw : FnScope ["_law_pen_here", "_law_many", "_law_digit", "_law_used", "_law_cell", "_law_great", "_law_mixed"] ["_law_pen_here", "_law_many"] (defScope s_law_draw) := ⟨rfl, rfl, rfl, by decide +kernel, rfl, by decide +kernel, by decide +kernel⟩
theorem sc_law_pick : FnScope ["_law_pen_here", "_law_some"] ["_law_pen_here", "_law_some"] (defScope s_law_pick) := ⟨rfl, rfl, rfl, by decide +kernel, rfl, by decide +kernel, by decide +kernel⟩
theorem sc_law_fraction : FnScope ["_law_pen_here", "_law_near", "_law_far"] ["_law_pen_here"] (defScope s_law_fraction) := ⟨rfl, rfl, rfl, by decide +kernel, rfl, by decide +kernel, by decide +kernel⟩
theorem sc_law_number : FnScope ["_law_pen_here", "_law_near"] ["_law_pen_here"] (defScope s_law_number) := ⟨rfl, rfl, rfl, by decide +kernel, rfl, by decide +kernel, by decide +kernel⟩
theorem sc_law_term : FnScope ["_law_pen_here", "_law_far"] ["_law_pen_here", "_law_far"] (defScope s_law_term) := ⟨rfl, rfl, rfl, by decide +kernel, rfl, by decide +kernel, by decide +kernel⟩
theorem sc_law_real_term : FnScope ["_law_term_here"] ["_law_term_here"] (defScope s_law_real_term) := ⟨rfl, rfl, rfl, by decide +kernel, rfl, by decide +kernel, by decide +kernel⟩
theorem sc_law_key : FnScope ["_law_term_here", "_law_n", "_law_top", "_law_bottom"] ["_law_term_here", "_law_n", "_law_top", "_law_bottom"] (defScope s_law_key) := ⟨rfl, rfl, rfl, by decide +kernel, rfl, by decide +kernel, by decide +kernel⟩
theorem sc_law_holds : FnScope ["_law_told", "_law_n", "_law_top", "_law_bottom", "_law_keys", "_law_term_here"] ["_law_told", "_law_n", "_law_top", "_law_bottom"] (defScope s_law_holds) := ⟨rfl, rfl, rfl, by decide +kernel, rfl, by decide +kernel, by decide +kernel⟩
theorem sc_law_real : FnScope ["_law_told", "_law_terms", "_law_term_here"] ["_law_told"] (defScope s_law_real) := ⟨rfl, rfl, rfl, by decide +kernel, rfl, by decide +kernel, by decide +kernel⟩
theorem sc_law_compared : FnScope ["_law_pen_here", "_law_far", "_law_word", "_law_terms", "_law_k"] ["_law_pen_here", "_law_far"] (defScope s_law_compared) := ⟨rfl, rfl, rfl, by decide +kernel, rfl, by decide +kernel, by decide +kernel⟩
theorem sc_law_kept_right : FnScope ["_law_made", "_law_told", "_law_terms", "_law_term_here", "_law_kinds", "_law_due"] ["_law_made", "_law_told"] (defScope s_law_kept_right) := ⟨rfl, rfl, rfl, by decide +kernel, rfl, by decide +kernel, by decide +kernel⟩
theorem sc_law_near_right : FnScope ["_law_pen_here", "_law_made", "_law_told", "_law_top", "_law_bottom", "_law_fifth", "_law_n", "_law_due"] ["_law_pen_here", "_law_made", "_law_told"] (defScope s_law_near_right) := ⟨rfl, rfl, rfl, by decide +kernel, rfl, by decide +kernel, by decide +kernel⟩
theorem sc_law_far_right : FnScope ["_law_pen_here", "_law_made", "_law_told", "_law_again", "_law_top", "_law_bottom", "_law_n"] ["_law_pen_here", "_law_made", "_law_told"] (defScope s_law_far_right) := ⟨rfl, rfl, rfl, by decide +kernel, rfl, by decide +kernel, by decide +kernel⟩
theorem sc_law : FnScope ["_law_script", "_law_pen_here", "_law_turn", "_law_told", "_law_rival", "_law_made", "_law_other", "_law_thing", "_law_some"] ["_law_script"] (defScope s_law) := ⟨rfl, rfl, rfl, by decide +kernel, rfl, by decide +kernel, by decide +kernel⟩
end Lw

/-! ### the head, in three looks at one run -/
namespace Lw
open PySem PySem.Spec PyProof.Rows L2
abbrev R : PySem.W.OpenRow := PySem.W.OpenLaw.row PySem.Challenge.rw_anyfifth_k39_positions_compared
def names : List Str := (("Ratio" : Str) :: ("Term" : Str) :: ("Note" : Str) :: ("Moving" : Str) :: ("Saying" : Str) :: ("Paired" : Str) :: ("Comparing" : Str) :: ("Levelled" : Str) :: ("At" : Str) :: ("Below" : Str) :: ("Between" : Str) :: ("Joined" : Str) :: ("is_integer" : Str) :: ("is_between" : Str) :: ("common_divisor" : Str) :: ("parts_of" : Str) :: ("need_divisor" : Str) :: ("is_fifth" : Str) :: ("need_fifth" : Str) :: ("key_of" : Str) :: ("marks_with" : Str) :: ("marks_of_pair" : Str) :: ("marks_of_three" : Str) :: ("need_note" : Str) :: ("need_term" : Str) :: ("_law_pen" : Str) :: ("_law_draw" : Str) :: ("_law_pick" : Str) :: ("_law_fraction" : Str) :: ("_law_number" : Str) :: ("_law_term" : Str) :: ("_law_real_term" : Str) :: ("_law_key" : Str) :: ("_law_holds" : Str) :: ("_law_real" : Str) :: ("_law_compared" : Str) :: ("_law_kept_right" : Str) :: ("_law_near_right" : Str) :: ("_law_far_right" : Str) :: ("law" : Str) :: [])
abbrev hk : PySem.W.Hook := G.hookN names 5 exs fns
def ob (s : PySem.W.SharedT) : He.AlD := G.obsNG names 5 exs fns (HandSHeadRun.getT s)
theorem ob_eq (s : PySem.W.SharedT) : ob s = hk.obs s.abs := G.obsNG_eq (HandSHeadRun.getT_eq s)
theorem runA (w : World) : ∀ os : OsState, (HandSHeadRun.endF (HandSHeadRun.stepQ (HandSHeadRun.denQ HandSHeadRun.tabQ) R.prog w) 20000 R.prog w os).map (fun s => HandSHeadRun.looksF R.prog (PySem.W.boot_heap w.params) s.abs) = some true := by
  intro os
  kernel_rfl
theorem runB (w : World) : ∀ os : OsState, (HandSHeadRun.endF (HandSHeadRun.stepQ (HandSHeadRun.denQ HandSHeadRun.tabQ) R.prog w) 20000 R.prog w os).map (fun s => HandSHeadRun.seenQ (PySem.W.view R.prog [71]) (("_wall" : Str) :: ("is_integer" : Str) :: ("is_between" : Str) :: ("FifthError" : Str) :: ("BadInput" : Str) :: ("Refused" : Str) :: ("BadRatio" : Str) :: ("BadFifth" : Str) :: ("BadNumber" : Str) :: ("BadTerm" : Str) :: ("BadSaying" : Str) :: ("BadText" : Str) :: ("NoDivisor" : Str) :: ("TooMany" : Str) :: ("FIGURES" : Str) :: ("common_divisor" : Str) :: ("figures_in" : Str) :: ("integer_in" : Str) :: ("MOST_FIGURES" : Str) :: ("parts_of" : Str) :: ("need_divisor" : Str) :: ("Ratio" : Str) :: ("is_fifth" : Str) :: ("need_fifth" : Str) :: ("key_of" : Str) :: ("marks_with" : Str) :: ("marks_of_pair" : Str) :: ("marks_of_three" : Str) :: ("MOST_NUMBER" : Str) :: ("need_note" : Str) :: ("Term" : Str) :: ("Note" : Str) :: ("Moving" : Str) :: ("need_term" : Str) :: ("Saying" : Str) :: ("need_saying_in" : Str) :: ("Paired" : Str) :: ("Comparing" : Str) :: ("Levelled" : Str) :: ("At" : Str) :: ("Below" : Str) :: ("Between" : Str) :: ("need_sayings" : Str) :: ("deepest" : Str) :: ("Joined" : Str) :: ("All" : Str) :: ("Any" : Str) :: ("Not" : Str) :: ("_law_pen" : Str) :: ("_law_draw" : Str) :: ("_law_pick" : Str) :: ("_law_fraction" : Str) :: ("_law_number" : Str) :: ("_law_term" : Str) :: ("_law_real_term" : Str) :: ("_law_key" : Str) :: ("_law_holds" : Str) :: ("_law_real" : Str) :: ("_law_compared" : Str) :: ("_law_kept_right" : Str) :: ("_law_near_right" : Str) :: ("_law_far_right" : Str) :: []) (PySem.importedModules R.prog.main.body) (fun s => PySem.W.xlAt (PySem.W.view R.prog [71]) [] s && PySem.W.recOk R.toRowW.records s) s.abs) = some (PySem.W.openGood (PySem.W.view R.prog [71]) (("_wall" : Str) :: ("is_integer" : Str) :: ("is_between" : Str) :: ("FifthError" : Str) :: ("BadInput" : Str) :: ("Refused" : Str) :: ("BadRatio" : Str) :: ("BadFifth" : Str) :: ("BadNumber" : Str) :: ("BadTerm" : Str) :: ("BadSaying" : Str) :: ("BadText" : Str) :: ("NoDivisor" : Str) :: ("TooMany" : Str) :: ("FIGURES" : Str) :: ("common_divisor" : Str) :: ("figures_in" : Str) :: ("integer_in" : Str) :: ("MOST_FIGURES" : Str) :: ("parts_of" : Str) :: ("need_divisor" : Str) :: ("Ratio" : Str) :: ("is_fifth" : Str) :: ("need_fifth" : Str) :: ("key_of" : Str) :: ("marks_with" : Str) :: ("marks_of_pair" : Str) :: ("marks_of_three" : Str) :: ("MOST_NUMBER" : Str) :: ("need_note" : Str) :: ("Term" : Str) :: ("Note" : Str) :: ("Moving" : Str) :: ("need_term" : Str) :: ("Saying" : Str) :: ("need_saying_in" : Str) :: ("Paired" : Str) :: ("Comparing" : Str) :: ("Levelled" : Str) :: ("At" : Str) :: ("Below" : Str) :: ("Between" : Str) :: ("need_sayings" : Str) :: ("deepest" : Str) :: ("Joined" : Str) :: ("All" : Str) :: ("Any" : Str) :: ("Not" : Str) :: ("_law_pen" : Str) :: ("_law_draw" : Str) :: ("_law_pick" : Str) :: ("_law_fraction" : Str) :: ("_law_number" : Str) :: ("_law_term" : Str) :: ("_law_real_term" : Str) :: ("_law_key" : Str) :: ("_law_holds" : Str) :: ("_law_real" : Str) :: ("_law_compared" : Str) :: ("_law_kept_right" : Str) :: ("_law_near_right" : Str) :: ("_law_far_right" : Str) :: [])) := by
  intro os
  kernel_rfl
theorem runC (w : World) : ∀ os : OsState, (HandSHeadRun.endF (HandSHeadRun.stepQ (HandSHeadRun.denQ HandSHeadRun.tabQ) R.prog w) 20000 R.prog w os).map ob = some (hk.val w) := by
  intro os
  kernel_rfl
theorem run (w : World) : HandSHeadRun.RunEq R (PySem.W.view R.prog [71]) hk ob 20000 (("_wall" : Str) :: ("is_integer" : Str) :: ("is_between" : Str) :: ("FifthError" : Str) :: ("BadInput" : Str) :: ("Refused" : Str) :: ("BadRatio" : Str) :: ("BadFifth" : Str) :: ("BadNumber" : Str) :: ("BadTerm" : Str) :: ("BadSaying" : Str) :: ("BadText" : Str) :: ("NoDivisor" : Str) :: ("TooMany" : Str) :: ("FIGURES" : Str) :: ("common_divisor" : Str) :: ("figures_in" : Str) :: ("integer_in" : Str) :: ("MOST_FIGURES" : Str) :: ("parts_of" : Str) :: ("need_divisor" : Str) :: ("Ratio" : Str) :: ("is_fifth" : Str) :: ("need_fifth" : Str) :: ("key_of" : Str) :: ("marks_with" : Str) :: ("marks_of_pair" : Str) :: ("marks_of_three" : Str) :: ("MOST_NUMBER" : Str) :: ("need_note" : Str) :: ("Term" : Str) :: ("Note" : Str) :: ("Moving" : Str) :: ("need_term" : Str) :: ("Saying" : Str) :: ("need_saying_in" : Str) :: ("Paired" : Str) :: ("Comparing" : Str) :: ("Levelled" : Str) :: ("At" : Str) :: ("Below" : Str) :: ("Between" : Str) :: ("need_sayings" : Str) :: ("deepest" : Str) :: ("Joined" : Str) :: ("All" : Str) :: ("Any" : Str) :: ("Not" : Str) :: ("_law_pen" : Str) :: ("_law_draw" : Str) :: ("_law_pick" : Str) :: ("_law_fraction" : Str) :: ("_law_number" : Str) :: ("_law_term" : Str) :: ("_law_real_term" : Str) :: ("_law_key" : Str) :: ("_law_holds" : Str) :: ("_law_real" : Str) :: ("_law_compared" : Str) :: ("_law_kept_right" : Str) :: ("_law_near_right" : Str) :: ("_law_far_right" : Str) :: []) w := fun os => G.map3 (runA w os) (runB w os) (runC w os)
end Lw

namespace Lw
open PySem PySem.Spec PyProof.Rows L2
section
variable {P : Program} {w : World} {K : PySem.W.Frag} {mg : Str → Option Value} {base : Heap}
/-! ### what stands in the heap -/
/-- a Ratio in lowest terms -/
structure IsR (K : PySem.W.Frag) (H : Hp) (a : Addr) (t b : Int) : Prop where
  at_ : ∃ dx, H a = some (.ins (He.ga K "Ratio") dx [("top", .int t), ("bottom", .int b)])
  pos : 0 < b
  cop : Int.gcd t b = 1
  bt : G.Bd 4000 t
  bb : G.Bd 4000 b
def Num (K : PySem.W.Frag) (H : Hp) (v : V) (t b : Int) : Prop := (v = .int t ∧ b = 1 ∧ G.Bd 4000 t) ∨ ∃ a, v = .ref a ∧ IsR K H a t b
/-! ### checks, figures -/
def sp_is_integer : Sp := fun vs H Q _ => ∃ i, vs = [.int i] ∧ Q (.bl true) H
theorem ok_is_integer (T : Tx K mg) : G.FnG P w K mg base CX0 1 (a_is_integer K) (G.fdOf K (a_is_integer K)) ["value"] sp_is_integer := by
  refine G.ok_of (F_is_integer T) sc_is_integer (fun vs H Q E h => ?_) (fun cdv A outer s H vs Q E hr h => ?_)
  · obtain ⟨i, rfl, _⟩ := h
    rfl
  · obtain ⟨i, rfl, q⟩ := h
    refine ⟨_, (pss_one (ps_ret (pe_and (pe_callB G.call_isiG (by rfl) (fr_isinstance T) boot_isinstance (pa_cons (pv 0) (pa_cons (G.pe_ty (by rfl) (fr_int T) boot_int) pa_nil))) (pe_one (pe_not (pe_callB G.call_isiG (by rfl) (fr_isinstance T) boot_isinstance (pa_cons (pv 0) (pa_cons (G.pe_ty (by rfl) (fr_bool T) boot_bool) pa_nil)))))))), ?_⟩
    walk_at "start"
    walk_at "go"
    exact q
def sp_common_divisor : Sp := fun vs H Q _ => ∃ i j, vs = [.int i, .int j] ∧ Q (.int ((Int.gcd i j : Nat) : Int)) H
theorem ok_common_divisor (T : Tx K mg) : G.FnG P w K mg base CX0 1 (a_common_divisor K) (G.fdOf K (a_common_divisor K)) ["one", "other"] sp_common_divisor := by
  refine G.ok_of (F_common_divisor T) sc_common_divisor (fun vs H Q E h => ?_) (fun cdv A outer s H vs Q E hr h => ?_)
  · obtain ⟨i, j, rfl, _⟩ := h
    rfl
  · obtain ⟨i, j, rfl, q⟩ := h
    refine ⟨_, (pss_cons (ps_par (i := 0) (j := 1) (by rfl) sc_common_divisor.nd rfl rfl (by decide) rfl rfl (pa_cons (pe_callB G.call_absG (by rfl) (fr_abs T) boot_abs (pa_cons (pv 0) pa_nil)) (pa_cons (pe_callB G.call_absG (by rfl) (fr_abs T) boot_abs (pa_cons (pv 1) pa_nil)) pa_nil)) (by rfl))
    (pss_cons (ps_while PassesOwn.never (pt_cmpR (G.op_neG hr.units) (pv 1) pe_int (nomark _)) (pss_one (ps_par (i := 0) (j := 1) (by rfl) sc_common_divisor.nd rfl rfl (by decide) rfl rfl (pa_cons (pv 1) (pa_cons (pe_op G.op_modG (pv 0) (pv 1)) pa_nil)) (by rfl))))
    (pss_one (ps_ret (pv 0))))), ?_⟩
    walk_at "start"
    walk_at "go"
    refine G.st_while (fun m σ H' => H' = H ∧ ∃ a : Nat, σ = [some (.int (a : Int)), some (.int (m : Int))] ∧ Nat.gcd a m = Int.gcd i j) j.natAbs ⟨rfl, _, rfl, rfl⟩ ?_
    rintro m σ H' ⟨rfl, a, rfl, e⟩
    walk_at "gob"
    · refine ⟨a % m, Nat.mod_lt _ (by omega), rfl, m, by simp, ?_⟩
      rw [← e, Nat.gcd_comm a m, Nat.gcd_rec m a, Nat.gcd_comm]
    · rename_i hc
      have : m = 0 := by omega
      subst this
      rw [← e, Nat.gcd_zero_right] at q
      exact q
def sp_parts_of (K : PySem.W.Frag) : Sp := fun vs H Q _ => ∃ v t b, vs = [v] ∧ Num K H v t b ∧ ∀ p H', H p = none → G.Kp H H' → H' p = some (.tup [.int t, .int b]) → Q (.ref p) H'
end
end Lw

namespace Lw
open PySem PySem.Spec PyProof.Rows L2
section
variable {P : Program} {w : World} {K : PySem.W.Frag} {mg : Str → Option Value} {base : Heap} {H H' : Hp} {Q : VK} {E : XK} {a p : Addr} {t b n d i j : Int} {v : V}
theorem lk1 {x y : V} : List.lookup ("top" : Str) ([("top", x), ("bottom", y)] : List (Str × V)) = some x := by simp [List.lookup]
theorem lk2 {x y : V} : List.lookup ("bottom" : Str) ([("top", x), ("bottom", y)] : List (Str × V)) = some y := by
  have e : (("bottom" : Str) == "top") = false := by decide +kernel
  simp [List.lookup, e]
theorem IsR.kp (k : G.Kp H H') (h : IsR K H a t b) : IsR K H' a t b := ⟨let ⟨dx, e⟩ := h.at_; ⟨dx, k _ _ e⟩, h.pos, h.cop, h.bt, h.bb⟩
theorem IsR.md (k : G.Md p H H') (h : IsR K H a t b) : IsR K H' a t b := ⟨let ⟨dx, e⟩ := h.at_; ⟨dx, k.ins e⟩, h.pos, h.cop, h.bt, h.bb⟩
theorem Num.kp (k : G.Kp H H') (h : Num K H v t b) : Num K H' v t b := h.elim .inl fun ⟨a, e, r⟩ => .inr ⟨a, e, r.kp k⟩
theorem Num.md (k : G.Md p H H') (h : Num K H v t b) : Num K H' v t b := h.elim .inl fun ⟨a, e, r⟩ => .inr ⟨a, e, r.md k⟩
theorem Num.of_int (h : G.Bd 4000 t) : Num K H (.int t) t 1 := .inl ⟨rfl, rfl, h⟩
theorem Num.of_r (h : IsR K H a t b) : Num K H (.ref a) t b := .inr ⟨a, rfl, h⟩
theorem Num.pos (h : Num K H v t b) : 0 < b := h.elim (fun e => by rw [e.2.1]; decide) fun ⟨_, _, r⟩ => r.pos
theorem Num.cop (h : Num K H v t b) : Int.gcd t b = 1 := h.elim (fun e => by rw [e.2.1]; simp) fun ⟨_, _, r⟩ => r.cop
theorem Num.bt (h : Num K H v t b) : G.Bd 4000 t := h.elim (fun e => e.2.2) fun ⟨_, _, r⟩ => r.bt
theorem Num.bb (h : Num K H v t b) : G.Bd 4000 b := h.elim (fun e => by rw [e.2.1]; exact (G.Bd.lit 1).mono (by decide)) fun ⟨_, _, r⟩ => r.bb
theorem IsR.ty (T : Tx K mg) (h : IsR K H a t b) : TyX K H (.ref a) (.ref (He.ga K "Ratio")) := let ⟨_, e⟩ := h.at_; .base (.ins e (cl_Ratio T) (is_Ratio T).ha (is_Ratio T).hn (is_Ratio T).ht (is_Ratio T).hm)
theorem isi_iR (T : Tx K mg) (q : Q (.bl false) H) : G.rIsiG K [.int i, .ref (He.ga K "Ratio")] H Q := G.isi_cl (.base (.int _)) (ki_int_Ratio T) q
theorem isi_R (T : Tx K mg) (h : IsR K H a t b) (q : Q (.bl true) H) : G.rIsiG K [.ref a, .ref (He.ga K "Ratio")] H Q := G.isi_cl (h.ty T) (ki_Ratio_Ratio T) q
theorem fld_top (T : Tx K mg) (h : IsR K H a t b) (q : Q (.int t) H) : G.FldK K "top" (.ref a) H Q := let ⟨_, e⟩ := h.at_; G.st_fldK e (cl_Ratio T) (na_Ratio_top T) lk1 q
theorem fld_bottom (T : Tx K mg) (h : IsR K H a t b) (q : Q (.int b) H) : G.FldK K "bottom" (.ref a) H Q := let ⟨_, e⟩ := h.at_; G.st_fldK e (cl_Ratio T) (na_Ratio_bottom T) lk2 q
theorem is_integer_i (q : Q (.bl true) H) : sp_is_integer [.int i] H Q E := ⟨i, rfl, q⟩
theorem common_divisor_i (q : Q (.int ((Int.gcd i j : Nat) : Int)) H) : sp_common_divisor [.int i, .int j] H Q E := ⟨i, j, rfl, q⟩
theorem parts_of_n (h : Num K H v t b) (q : ∀ p H', H p = none → G.Kp H H' → H' p = some (.tup [.int t, .int b]) → Q (.ref p) H') : sp_parts_of K [v] H Q E := ⟨v, t, b, rfl, h, q⟩
theorem parts_of_i (h : G.Bd 4000 i) (q : ∀ p H', H p = none → G.Kp H H' → H' p = some (.tup [.int i, .int 1]) → Q (.ref p) H') : sp_parts_of K [.int i] H Q E := parts_of_n (.of_int h) q
theorem parts_of_R (h : IsR K H a t b) (q : ∀ p H', H p = none → G.Kp H H' → H' p = some (.tup [.int t, .int b]) → Q (.ref p) H') : sp_parts_of K [.ref a] H Q E := parts_of_n (.of_r h) q
end
end Lw

-- Ratio: facts, fields
local macro_rules | `(tactic| walk_at "hp") => `(tactic| first
  | (refine Lw.IsR.kp (by assumption) ?_; walk_at "hp")
  | (refine Lw.IsR.md (by assumption) ?_; walk_at "hp")
  | (refine Lw.Num.kp (by assumption) ?_; walk_at "hp")
  | (refine Lw.Num.md (by assumption) ?_; walk_at "hp")
  | (refine Lw.Num.of_r ?_; walk_at "hp"))
local macro_rules | `(tactic| walk_at "gx") => `(tactic| first
  | ((with_reducible refine Lw.isi_iR (by assumption) ?_))
  | ((with_reducible refine Lw.isi_R (t := ?z0) (b := ?z1) (by assumption) ?h ?_); (case h => walk_at "hp"))
  | ((with_reducible refine Lw.fld_top (t := ?z0) (b := ?z1) (by assumption) ?h ?_); (case h => walk_at "hp"))
  | ((with_reducible refine Lw.fld_bottom (t := ?z0) (b := ?z1) (by assumption) ?h ?_); (case h => walk_at "hp"))
  | with_reducible refine Lw.is_integer_i ?_
  | with_reducible refine Lw.common_divisor_i ?_
  | ((with_reducible refine Lw.parts_of_i ?h ?_); (case h => walk_at "bdw"); intro _ _ _ _ _)
  | ((with_reducible refine Lw.parts_of_R (t := ?z0) (b := ?z1) ?h ?_); (case h => walk_at "hp"); intro _ _ _ _ _)
  | ((with_reducible refine Lw.parts_of_n (t := ?z0) (b := ?z1) ?h ?_); (case h => walk_at "hp"); intro _ _ _ _ _))

namespace Lw
open PySem PySem.Spec PyProof.Rows L2
section
variable {P : Program} {w : World} {K : PySem.W.Frag} {mg : Str → Option Value} {base : Heap}
theorem ok_parts_of (T : Tx K mg) : G.FnG P w K mg base CX0 1 (a_parts_of K) (G.fdOf K (a_parts_of K)) ["number"] (sp_parts_of K) := by
  refine G.ok_of (F_parts_of T) sc_parts_of (fun vs H Q E h => ?_) (fun cdv A outer s H vs Q E hr h => ?_)
  · obtain ⟨v, t, b, rfl, _⟩ := h
    rfl
  · obtain ⟨v, t, b, rfl, hv, q⟩ := h
    refine ⟨_, (pss_one (ps_ret (pe_ifExp (pt_val (pe_callB G.call_isiG (by rfl) (fr_isinstance T) boot_isinstance (pa_cons (pv 0) (pa_cons (G.pe_cl rfl (gl_Ratio T)) pa_nil)))) (pe_tup (pa_cons (pe_fld (pv 0) rfl) (pa_cons (pe_fld (pv 0) rfl) pa_nil))) (pe_tup (pa_cons (pv 0) (pa_cons pe_int pa_nil)))))), ?_⟩
    walk_at "start"
    rcases hv with ⟨rfl, rfl, _⟩ | ⟨a, rfl, ha⟩
    · walk_at "gob"
      exact q _ _ (by assumption) (by assumption) (by assumption)
    · walk_at "gob"
      exact q _ _ (by assumption) (by assumption) (by assumption)
def sp_need_divisor : Sp := fun vs H Q _ => ∃ i, vs = [.int i] ∧ i ≠ 0 ∧ Q .non H
theorem ok_need_divisor (T : Tx K mg) : G.FnG P w K mg base CX0 1 (a_need_divisor K) (G.fdOf K (a_need_divisor K)) ["number"] sp_need_divisor := by
  refine G.ok_of (F_need_divisor T) sc_need_divisor (fun vs H Q E h => ?_) (fun cdv A outer s H vs Q E hr h => ?_)
  · obtain ⟨i, rfl, _⟩ := h
    rfl
  · obtain ⟨i, rfl, hi, q⟩ := h
    refine ⟨_, (pss_one (ps_if (pt_cmpR (G.op_eqG hr.units) (pv 0) pe_int (nomark _)) (pss_one ps_never) pss_nil)), ?_⟩
    walk_at "start"
    walk_at "gob"
    exact q
theorem need_divisor_i {H : Hp} {Q : VK} {E : XK} {i : Int} (h : i ≠ 0) (q : Q .non H) : sp_need_divisor [.int i] H Q E := ⟨i, rfl, h, q⟩
/-- t / b in lowest terms is n / d -/
def Low (t b n d : Int) : Prop := 0 < d ∧ Int.gcd n d = 1 ∧ ∃ k, t = n * k ∧ b = d * k
theorem low_g {t b g : Int} (hg : 0 < g) (e : g = ((Int.gcd t b : Nat) : Int)) (hb : b ≠ 0) : ∃ c d, t = g * c ∧ b = g * d ∧ t / g = c ∧ b / g = d ∧ Int.gcd c d = 1 := by
  obtain ⟨c, hc⟩ := Int.gcd_dvd_left t b
  obtain ⟨d, hd⟩ := Int.gcd_dvd_right t b
  rw [← e] at hc hd
  refine ⟨c, d, hc, hd, Int.ediv_eq_of_eq_mul_right (by omega) hc, Int.ediv_eq_of_eq_mul_right (by omega) hd, ?_⟩
  have z : Int.gcd t b = g.natAbs * Int.gcd c d := by
    conv => lhs; rw [hc, hd]
    rw [Int.gcd_mul_left]
  have g0 : 0 < g.natAbs := by omega
  have : g.natAbs * 1 = g.natAbs * Int.gcd c d := by omega
  exact (Nat.eq_of_mul_eq_mul_left g0 this).symm
theorem gcd_pos' {t b : Int} (h : b ≠ 0) : (0 : Int) < ((Int.gcd t b : Nat) : Int) := by
  have := Int.gcd_pos_of_ne_zero_right t h
  omega
theorem low_pos {t b : Int} (h : 0 < b) : Low t b (t.fdiv (Int.gcd t b)) (b.fdiv (Int.gcd t b)) := by
  have hg := gcd_pos' (t := t) (b := b) (by omega)
  obtain ⟨c, d, hc, hd, e1, e2, e3⟩ := low_g hg rfl (by omega)
  rw [Int.fdiv_eq_ediv_of_nonneg _ (by omega), Int.fdiv_eq_ediv_of_nonneg _ (by omega), e1, e2]
  refine ⟨?_, e3, _, by rw [Int.mul_comm]; exact hc, by rw [Int.mul_comm]; exact hd⟩
  rcases Int.lt_trichotomy d 0 with z | z | z
  · have := Int.mul_neg_of_pos_of_neg hg z
    omega
  · subst z; omega
  · exact z
theorem low_neg {t b : Int} (h : b < 0) : Low t b (t.fdiv (-(Int.gcd t b))) (b.fdiv (-(Int.gcd t b))) := by
  have hg := gcd_pos' (t := t) (b := b) (by omega)
  obtain ⟨c, d, hc, hd, e1, e2, e3⟩ := low_g hg rfl (by omega)
  have key : ∀ g x y : Int, 0 < g → x = g * y → x.fdiv (-g) = -y := fun g x y hg hx => by
    rw [hx, show g * y = (-g) * (-y) by rw [Int.neg_mul_neg]]
    exact Int.mul_fdiv_cancel_left _ (by omega)
  have f1 := key _ _ _ hg hc
  have f2 := key _ _ _ hg hd
  rw [f1, f2]
  refine ⟨?_, by rw [Int.gcd_neg, Int.neg_gcd]; exact e3, -((Int.gcd t b : Nat) : Int), by rw [Int.neg_mul_neg, Int.mul_comm]; exact hc, by rw [Int.neg_mul_neg, Int.mul_comm]; exact hd⟩
  rcases Int.lt_trichotomy d 0 with z | z | z
  · omega
  · subst z; omega
  · have := Int.mul_pos hg z
    omega
theorem Low.le {t b n d : Int} (h : Low t b n d) (hb : b ≠ 0) : n.natAbs ≤ t.natAbs ∧ d.natAbs ≤ b.natAbs := by
  obtain ⟨_, _, k, e1, e2⟩ := h
  have hk : 1 ≤ k.natAbs := by
    rcases Nat.eq_zero_or_pos k.natAbs with z | z
    · have : k = 0 := by omega
      subst this
      simp at e2
      exact absurd e2 hb
    · exact z
  rw [e1, e2, Int.natAbs_mul, Int.natAbs_mul]
  exact ⟨Nat.le_mul_of_pos_right _ hk, Nat.le_mul_of_pos_right _ hk⟩
/-- lowest terms are the only ones -/
theorem Low.self {t b n d : Int} (h : Low t b n d) (hb : 0 < b) (hc : Int.gcd t b = 1) : n = t ∧ d = b := by
  obtain ⟨h0, h1, k, e1, e2⟩ := h
  have hk : Int.gcd t b = Int.gcd n d * k.natAbs := by rw [e1, e2, Int.gcd_mul_right]
  rw [hc, h1] at hk
  have k1 : k.natAbs = 1 := by omega
  have k2 : 0 < k := by
    rcases Int.lt_trichotomy k 0 with z | z | z
    · have := Int.mul_neg_of_pos_of_neg h0 z
      omega
    · omega
    · exact z
  have : k = 1 := by omega
  subst this
  rw [Int.mul_one] at e1 e2
  exact ⟨e1.symm, e2.symm⟩
/-- Ratio(t, b): the new instance -/
def sp_Ratio_init (K : PySem.W.Frag) : Sp := fun vs H Q _ => ∃ x dx t b, vs = [.ref x, .int t, .int b] ∧ H x = some (.ins (He.ga K "Ratio") dx []) ∧ b ≠ 0 ∧ G.Bd 4000 t ∧ G.Bd 4000 b ∧
  ∀ n d H', Low t b n d → G.Mi x H H' → H' x = some (.ins (He.ga K "Ratio") dx [("top", .int n), ("bottom", .int d)]) → Q .non H'
end
end Lw

local macro_rules | `(tactic| walk_at "gx") => `(tactic| first
  | ((with_reducible refine Lw.need_divisor_i ?h ?_); (case h => first | assumption | omega)))

namespace Lw
open PySem PySem.Spec PyProof.Rows L2
section
variable {P : Program} {w : World} {K : PySem.W.Frag} {mg : Str → Option Value} {base : Heap}
theorem pf_R {x y : V} : putF ("bottom" : Str) y (putF ("top" : Str) x []) = ([("top", x), ("bottom", y)] : List (Str × V)) := by
  have e : ¬ (("top" : Str) = "bottom") := by decide +kernel
  show (if ("top" : Str) = "bottom" then [(("top" : Str), y)] else (("top" : Str), x) :: putF "bottom" y []) = ([("top", x), ("bottom", y)] : List (Str × V))
  rw [if_neg e]
  rfl
theorem bd_gcd {m : Nat} {t b : Int} (h : G.Bd m b) (hb : b ≠ 0) : G.Bd m ((Int.gcd t b : Nat) : Int) := G.Bd.of_le h (by
  have : Int.gcd t b ∣ b.natAbs := Nat.gcd_dvd_right _ _
  have := Nat.le_of_dvd (by omega) this
  omega)
theorem init_end {H : Hp} {x dx : Addr} {t b s : Int} {σ : L2.St} {te tx : TE} {n : L2.St → Hp → Prop} {r : VK} {bk ct : L2.St → Hp → Prop} (T : Tx K mg) (hx : H x = some (.ins (He.ga K "Ratio") dx [])) (hs : s ≠ 0) (bs : G.Bd 4000 s)
    (he : ∀ H' (Q : VK), G.rDivG (.int b) (.int s) H' Q → te σ H' Q) (hv : ∀ H' (Q : VK), Q (.ref x) H' → tx σ H' Q)
    (q : ∀ H', G.Mi x H H' → H' x = some (.ins (He.ga K "Ratio") dx [("top", .int (t.fdiv s)), ("bottom", .int (b.fdiv s))]) → n σ H') :
    G.rDivG (.int t) (.int s) H fun y H1 => tx σ H1 fun x1 H2 => G.SFldK K "top" x1 y H2 (sFld K tx te "bottom" ⟨n, r, bk, ct⟩ σ) := by
  refine G.fdiv_ii hs bs (by decide) (hv _ _ ?_)
  refine G.st_setfldM hx (cl_Ratio T) (na_Ratio_top T) (by decide) fun H1 m1 e1 => ?_
  refine G.st_setfld (he _ _ (G.fdiv_ii hs bs (by decide) (hv _ _ ?_)))
  refine G.st_setfldM e1 (cl_Ratio T) (na_Ratio_bottom T) (by show 1 < 1000; decide) fun H2 m2 e2 => ?_
  exact q _ (m1.trans m2) (e2.trans (congrArg (fun z => some (HO.ins (He.ga K "Ratio") dx z)) pf_R))
theorem ok_Ratio_init (T : Tx K mg) : G.FnG P w K mg base CX0 2 (a_Ratio_init K) (G.fdOf K (a_Ratio_init K)) ["self", "top", "bottom"] (sp_Ratio_init K) := by
  refine G.ok_of (F_Ratio_init T) sc_Ratio_init (fun vs H Q E h => ?_) (fun cdv A outer s H vs Q E hr h => ?_)
  · obtain ⟨x, dx, t, b, rfl, _⟩ := h
    rfl
  · obtain ⟨x, dx, t, b, rfl, hx, hb, bt, bb, q⟩ := h
    refine ⟨_, (pss_cons (ps_if (pt_not (pt_val (G.pe_callG (ok_is_integer T) (hr.mono (by first | decide | omega)) rfl (gl_is_integer T) (F_is_integer T).kp (bi_is_integer T) .nil pass0 (pa_cons (pv 1) pa_nil)))) (pss_one ps_never) pss_nil)
    (pss_cons (ps_if (pt_not (pt_val (G.pe_callG (ok_is_integer T) (hr.mono (by first | decide | omega)) rfl (gl_is_integer T) (F_is_integer T).kp (bi_is_integer T) .nil pass0 (pa_cons (pv 2) pa_nil)))) (pss_one ps_never) pss_nil)
    (pss_cons (ps_expr (G.pe_callG (ok_need_divisor T) (hr.mono (by first | decide | omega)) rfl (gl_need_divisor T) (F_need_divisor T).kp (bi_need_divisor T) .nil pass0 (pa_cons (pv 2) pa_nil)))
    (pss_cons (ps_set (i := 3) sc_Ratio_init.nd rfl (Or.inl rfl) (G.pe_callG (ok_common_divisor T) (hr.mono (by first | decide | omega)) rfl (gl_common_divisor T) (F_common_divisor T).kp (bi_common_divisor T) .nil pass0 (pa_cons (pv 1) (pa_cons (pv 2) pa_nil))))
    (pss_cons (ps_if (pt_cmpR G.op_ltG (pv 2) pe_int (nomark _)) (pss_one (ps_set (i := 3) sc_Ratio_init.nd rfl (Or.inl rfl) (pe_un G.un_negG (pv 3)))) pss_nil)
    (pss_cons (ps_fld (pv 0) (pe_op G.op_divG (pv 1) (pv 3)) rfl)
    (pss_one (ps_fld (pv 0) (pe_op G.op_divG (pv 2) (pv 3)) rfl)))))))), ?_⟩
    walk_at "start"
    walk_at "gob"
    · have h0 := gcd_pos' (t := t) hb
      refine init_end T hx (by omega) (bd_gcd bb hb).neg (fun H' Q h => ?_) (fun H' Q h => ?_) fun H' k e => q _ _ _ (low_neg (by omega)) k e
      · walk_at "go"; exact h
      · walk_at "go"; exact h
    · have h0 := gcd_pos' (t := t) hb
      refine init_end T hx (by omega) (bd_gcd bb hb) (fun H' Q h => ?_) (fun H' Q h => ?_) fun H' k e => q _ _ _ (low_pos (by omega)) k e
      · walk_at "go"; exact h
      · walk_at "go"; exact h
end
end Lw

namespace Lw
open PySem PySem.Spec PyProof.Rows L2
/-! ### the pen -/
section
variable {P : Program} {w : World} {K : PySem.W.Frag} {mg : Str → Option Value} {base : Heap} {H H' : Hp} {Q : VK} {E : XK} {p q l r x : Addr} {a b c d t m : Int} {v y : V} {n n' : Nat}
/-- the state of the drawing, its cells at l, at most n of them taken -/
def PenL (H : Hp) (p l : Addr) (n : Nat) : Prop := ∃ (i g : Int) (ns : List Int), H p = some (.lst [.ref l, .int i, .int g]) ∧ H l = some (.lst (ns.map V.int)) ∧ l ≠ p ∧ 0 ≤ i ∧ i ≤ (n : Int) ∧ 0 ≤ g ∧ ns.length ≤ 63
theorem PenL.mono (h : PenL H p l n) (e : n ≤ n') : PenL H p l n' := by
  obtain ⟨i, g, ns, h1, h2, h3, h4, h5, h6, h7⟩ := h
  exact ⟨i, g, ns, h1, h2, h3, h4, by omega, h6, h7⟩
theorem PenL.kp (k : G.Kp H H') (h : PenL H p l n) : PenL H' p l n := by
  obtain ⟨i, g, ns, h1, h2, h3⟩ := h
  exact ⟨i, g, ns, k _ _ h1, k _ _ h2, h3⟩
theorem PenL.is (h : PenL H p l n) : ∃ xs, H p = some (.lst xs) := let ⟨_, _, _, e, _⟩ := h; ⟨_, e⟩
/-- another list changes: the pen stays -/
theorem PenL.md (k : G.Md q H H') (n1 : p ≠ q) (n2 : l ≠ q) (h : PenL H p l n) : PenL H' p l n := by
  obtain ⟨i, g, ns, h1, h2, h3⟩ := h
  exact ⟨i, g, ns, k.lst h1 n1, k.lst h2 n2, h3⟩
theorem PenL.fresh (h : PenL H p l n) (e : H q = none) : p ≠ q ∧ l ≠ q := by
  obtain ⟨i, g, ns, h1, h2, h3⟩ := h
  exact ⟨ne_of_none h1 e, ne_of_none h2 e⟩
theorem dp_ints {ns : List Int} : DpAll K H (ns.map V.int) (ns.map PyData.int) := by
  induction ns with
  | nil => exact .nil
  | cons n r ih => exact .cons (.int n) ih
theorem lay_ints (ns : List Int) : PyData.canLayAll0 (ns.map PyData.int) = true ∧ PyData.depthAll (ns.map PyData.int) = 0 := by
  induction ns with
  | nil => exact ⟨rfl, rfl⟩
  | cons n r ih => exact ⟨by simp [PyData.canLayAll0, PyData.canLay0, ih.1], by simp [PyData.depthAll, PyData.depth, ih.2]⟩
theorem shaped_ints (ns : List Int) : SeqAt.shaped (.list (ns.map PyData.int)) = true := by
  have h := lay_ints ns
  simp [SeqAt.shaped, PyData.canLay0, PyData.depth, h.1, h.2]
theorem ne_empty {ns : List Int} (h1 : SqL K H p (ns.map V.int)) (h2 : SqL K H q []) (z : Q (.bl (!decide (ns = []))) H) : G.rNeG K (.ref p) (.ref q) H Q := by
  refine G.ne_dd (.lst h1 dp_ints) (.lst h2 .nil) (shaped_ints ns) (by decide) ?_
  have e : PyData.eqv (.list (ns.map PyData.int)) (.list []) = decide (ns = []) := by
    cases ns with
    | nil => rfl
    | cons n r => simp [PyData.eqv, PyData.eqvAll]
  rw [e]
  exact z
theorem mix_small {m b c1 c2 c3 : Int} (h0 : 0 ≤ m) (h1 : m < 2147483648) (h2 : 0 ≤ b) (h3 : b ≤ 1000000) (h4 : 0 ≤ c1) (h5 : c1 ≤ 1000) (h6 : 0 ≤ c2) (h7 : c2 ≤ 100000) (h8 : 0 ≤ c3) (h9 : c3 ≤ 1000000) :
    (m * (2 * b + c1) + c2 * b * b + c3).natAbs < 2 ^ 64 := by
  have e1 : m * (2 * b + c1) ≤ 2147483648 * 2001000 := Int.mul_le_mul (by omega) (by omega) (by omega) (by omega)
  have e2 : 0 ≤ m * (2 * b + c1) := Int.mul_nonneg h0 (by omega)
  have e3 : c2 * b ≤ 100000 * 1000000 := Int.mul_le_mul h7 h3 h2 (by omega)
  have e4 : 0 ≤ c2 * b := Int.mul_nonneg h6 h2
  have e5 : c2 * b * b ≤ (100000 * 1000000) * 1000000 := Int.mul_le_mul e3 h3 h2 (by omega)
  have e6 : 0 ≤ c2 * b * b := Int.mul_nonneg e4 h2
  omega
theorem cell_at {ns : List Int} {k : Int} (h0 : 0 ≤ k) (h1 : k < (ns.length : Int)) : ∃ c, atI (ns.map V.int) k = some (.int c) := by
  obtain ⟨j, rfl⟩ := Int.eq_ofNat_of_zero_le h0
  have hj : j < ns.length := by omega
  exact ⟨ns[j], atI_nat (by simp [hj])⟩
end
end Lw

local macro_rules | `(tactic| walk_at "gx") => `(tactic| ((with_reducible refine G.pow_ii (z := ?z0) ?h ?e ?_); (case h => (refine ⟨by omega, by omega, ?_⟩; refine Lw.mix_small ?_ ?_ ?_ ?_ ?_ ?_ ?_ ?_ ?_ ?_ <;> omega)); (case e => ((simp only [Int.reduceToNat]); rfl))))

namespace Lw
open PySem PySem.Spec PyProof.Rows L2
section
variable {P : Program} {w : World} {K : PySem.W.Frag} {mg : Str → Option Value} {base : Heap} {H H' : Hp} {Q : VK} {E : XK} {p q l r x : Addr} {a b c d t m : Int} {v y : V} {n n' : Nat}
def sp_draw : Sp := fun vs H Q _ => ∃ p l m n, vs = [.ref p, .int m] ∧ PenL H p l n ∧ n < 1000000 ∧ 0 < m ∧ G.Bd 8000 m ∧ ∀ d H', G.Md p H H' → PenL H' p l (n + 1) → 0 ≤ d → d < m → Q (.int d) H'
theorem ok_law_draw (T : Tx K mg) : G.FnG P w K mg base CX0 1 (a_law_draw K) (G.fdOf K (a_law_draw K)) ["_law_pen_here", "_law_many"] sp_draw := by
  refine G.ok_of (F_law_draw T) sc_law_draw (fun vs H Q E h => ?_) (fun cdv A outer s H vs Q E hr h => ?_)
  · obtain ⟨p, l, m, n, rfl, _⟩ := h
    rfl
  · obtain ⟨p, l, m, n, rfl, ⟨i, g, ns, hp, hl, nlp, i0, i1, g0, hz⟩, hn, m0, bm, q⟩ := h
    refine ⟨_, (pss_cons (ps_if (pt_cmpR G.op_gtG (pe_ix ix_seq (pv 0) pe_int (fun _ _ => rfl)) pe_int (nomark _)) (pss_cons (ps_set (i := 2) sc_law_draw.nd rfl (Or.inl rfl) (pe_op G.op_modG (pe_callTy G.call_intG (by rfl) (fr_int T) boot_int (pa_cons (pe_ix ix_seq (pv 0) pe_int (fun _ _ => rfl)) pa_nil)) (pv 1)))
    (pss_cons (ps_asg (pe_op G.op_divG (pe_callTy G.call_intG (by rfl) (fr_int T) boot_int (pa_cons (pe_ix ix_seq (pv 0) pe_int (fun _ _ => rfl)) pa_nil)) (pv 1)) (pg_sub (pv 0) pe_int set_list))
    (pss_one (ps_ret (pv 2))))) pss_nil)
    (pss_cons (ps_set (i := 3) sc_law_draw.nd rfl (Or.inl rfl) (pe_ix ix_seq (pv 0) pe_int (fun _ _ => rfl)))
    (pss_cons (ps_asg (pe_op G.op_addG (pv 3) pe_int) (pg_sub (pv 0) pe_int set_list))
    (pss_cons (ps_set (i := 4) sc_law_draw.nd rfl (Or.inl rfl) (pe_op G.op_addG (pe_op G.op_mulG pe_int (pv 3)) pe_int))
    (pss_cons (ps_if (pt_cmpR (G.op_neG hr.units) (pe_ix ix_seq (pv 0) pe_int (fun _ _ => rfl)) (pe_lst pa_nil) (nomark _)) (pss_one (ps_set (i := 4) sc_law_draw.nd rfl (Or.inl rfl) (pe_ix ix_seq (pe_ix ix_seq (pv 0) pe_int (fun _ _ => rfl)) (pe_op G.op_modG (pe_callTy G.call_intG (by rfl) (fr_int T) boot_int (pa_cons (pv 3) pa_nil)) (pe_callB G.call_lenG (by rfl) (fr_len T) PySem.boot_len (pa_cons (pe_ix ix_seq (pv 0) pe_int (fun _ _ => rfl)) pa_nil))) (fun _ _ => rfl)))) pss_nil)
    (pss_cons (ps_if (PW.pt (pw_and (pt_cmpR G.op_ltG (pv 3) (pe_callB G.call_lenG (by rfl) (fr_len T) PySem.boot_len (pa_cons (pe_ix ix_seq (pv 0) pe_int (fun _ _ => rfl)) pa_nil)) (nomark _)) (pw_and1 (pt_cmpR G.op_geG (pe_callB G.call_absG (by rfl) (fr_abs T) boot_abs (pa_cons (pv 4) pa_nil)) (pe_op G.op_powG pe_int pe_int) (nomark _))))) (pss_cons (ps_set (i := 5) sc_law_draw.nd rfl (Or.inl rfl) (pe_op G.op_addG (pe_op G.op_mulG pe_int (pe_op G.op_subG (pe_callB G.call_absG (by rfl) (fr_abs T) boot_abs (pa_cons (pv 4) pa_nil)) (pe_op G.op_powG pe_int pe_int))) (pe_callTy G.call_intG (by rfl) (fr_int T) boot_int (pa_cons (pe_cmpR G.op_ltG (pv 4) pe_int (nomark _)) pa_nil))))
    (pss_cons (ps_asg (pe_op G.op_divG (pe_callTy G.call_intG (by rfl) (fr_int T) boot_int (pa_cons (pv 5) pa_nil)) (pv 1)) (pg_sub (pv 0) pe_int set_list))
    (pss_one (ps_ret (pe_op G.op_modG (pe_callTy G.call_intG (by rfl) (fr_int T) boot_int (pa_cons (pv 5) pa_nil)) (pv 1)))))) pss_nil)
    (pss_cons (ps_set (i := 6) sc_law_draw.nd rfl (Or.inl rfl) (pe_op G.op_modG (pe_callTy G.call_intG (by rfl) (fr_int T) boot_int (pa_cons (pe_op G.op_powG (pe_op G.op_addG (pe_op G.op_addG (pe_op G.op_modG (pe_callTy G.call_intG (by rfl) (fr_int T) boot_int (pa_cons (pv 4) pa_nil)) pe_int) (pe_op G.op_mulG pe_int (pv 3))) pe_int) pe_int) pa_nil)) pe_int))
    (pss_cons (ps_set (i := 6) sc_law_draw.nd rfl (Or.inl rfl) (pe_op G.op_modG (pe_callTy G.call_intG (by rfl) (fr_int T) boot_int (pa_cons (pe_op G.op_powG (pe_op G.op_addG (pe_op G.op_addG (pe_op G.op_mulG (pv 6) (pe_op G.op_addG (pe_op G.op_mulG pe_int (pv 3)) pe_int)) (pe_op G.op_mulG (pe_op G.op_mulG pe_int (pv 3)) (pv 3))) pe_int) pe_int) pa_nil)) pe_int))
    (pss_one (ps_ret (pe_op G.op_modG (pe_callTy G.call_intG (by rfl) (fr_int T) boot_int (pa_cons (pe_op G.op_divG (pv 6) pe_int) pa_nil)) (pv 1)))))))))))), ?_⟩
    walk_at "start"
    walk_at "gob"
    · rename_i k2 e2
      exact q _ _ k2 ⟨i, g / m, ns, e2, k2.lst hl nlp, nlp, i0, by omega, Int.ediv_nonneg g0 (by omega), hz⟩ (Int.emod_nonneg _ (by omega)) (Int.emod_lt_of_pos _ m0)
    · rename_i H1 m1 e1 z H2 _ k2 e2
      have hlen : (ns.map V.int).length = ns.length := List.length_map ..
      have hl2 : H2 l = some (.lst (ns.map V.int)) := by walk_at "hp"
      refine ne_empty (SqL.of hl2) (SqL.of e2) ?_
      have e3 := k2 _ _ e1
      have m3 := m1.kp_r k2
      clear m1 e1 k2 e2
      have pen : ∀ d, 0 ≤ d → d < m → Q (.int d) H2 := fun d d0 d1 => q d H2 m3 ⟨i + 1, g, ns, e3, hl2, nlp, by omega, by omega, g0, hz⟩ d0 d1
      have fin : ∀ y : Int, Q (.int (y % m)) H2 := fun y => pen _ (Int.emod_nonneg _ (by omega)) (Int.emod_lt_of_pos _ m0)
      have great : ∀ y : Int, 0 ≤ y → ∀ H', G.Md p H2 H' → H' p = some (.lst [.ref l, .int (i + 1), .int (y / m)]) → Q (.int (y % m)) H' := fun y y0 H' k e =>
        q _ _ (m3.trans k) ⟨i + 1, y / m, ns, e, k.lst hl2 nlp, nlp, by omega, by omega, Int.ediv_nonneg y0 (by omega), hz⟩ (Int.emod_nonneg _ (by omega)) (Int.emod_lt_of_pos _ m0)
      clear q
      have ilt : i ≤ 1000000 := by omega
      by_cases hns : ns = []
      · have hpos : (ns.map V.int).length = 0 := by rw [hlen, hns]; rfl
        walk_at "gob"
        all_goals exact fin _
      · have hpos : 0 < ((ns.map V.int).length : Int) := by
          rw [hlen]
          have := List.length_pos_iff.mpr hns
          omega
        walk_at "gob"
        obtain ⟨c, hc⟩ := cell_at (ns := ns) (k := i % ((ns.map V.int).length : Int)) (Int.emod_nonneg _ (by omega)) (by rw [← hlen]; exact Int.emod_lt_of_pos _ hpos)
        refine G.ix_l (SqL.of hl2) hc ?_
        clear hc
        walk_at "gob"
        · exact great _ (by split <;> omega) _ (by assumption) (by assumption)
        all_goals exact fin _
theorem draw_p (hp : PenL H p l n) (hn : n < 1000000) (m0 : 0 < m) (bm : G.Bd 8000 m) (z : ∀ d H', G.Md p H H' → PenL H' p l (n + 1) → 0 ≤ d → d < m → Q (.int d) H') : sp_draw [.ref p, .int m] H Q E := ⟨p, l, m, n, rfl, hp, hn, m0, bm, z⟩
/-- the pen begins -/
def sp_pen (K : PySem.W.Frag) : Sp := fun vs H Q _ => ∃ (x : Addr) (ns : List Int), vs = [.ref x] ∧ SqL K H x (ns.map V.int) ∧ ns.length ≤ 63 ∧ ∀ p l H', H p = none → G.Kp H H' → PenL H' p l 0 → Q (.ref p) H'
theorem cut_ints (ns : List Int) (lo hi : Option Int) : ∃ ms : List Int, cutV (ns.map V.int) lo hi = ms.map V.int ∧ ms.length ≤ ns.length :=
  ⟨(ns.drop (HT.sIx ns.length 0 lo)).take (HT.sIx ns.length ns.length hi - HT.sIx ns.length 0 lo), by rw [cutV, List.length_map, List.map_take, List.map_drop], by rw [List.length_take, List.length_drop]; omega⟩
theorem ok_law_pen (T : Tx K mg) : G.FnG P w K mg base CX0 1 (a_law_pen K) (G.fdOf K (a_law_pen K)) ["_law_script"] (sp_pen K) := by
  refine G.ok_of (F_law_pen T) sc_law_pen (fun vs H Q E h => ?_) (fun cdv A outer s H vs Q E hr h => ?_)
  · obtain ⟨x, ns, rfl, _⟩ := h
    rfl
  · obtain ⟨x, ns, rfl, hx, ln, q⟩ := h
    refine ⟨_, (pss_one (ps_ret (pe_lst (pa_cons (pe_callTy G.call_listG (by rfl) (fr_list T) boot_list (pa_cons (pe_slice G.sl_G (pv 0) po_none (po_some pe_int)) pa_nil)) (pa_cons pe_int (pa_cons pe_int pa_nil)))))), ?_⟩
    walk_at "start"
    walk_at "go"
    obtain ⟨ms, em, lm⟩ := cut_ints ns none (some 63)
    rename_i p1 H1 n1 k1 e1 p2 H2 n2 k2 e2 p3 H3 n3 k3 e3
    rw [em] at e2
    exact q p3 p2 H3 (by walk_at "fr") ((k1.trans k2).trans k3) ⟨0, 0, ms, e3, k3 _ _ e2, ne_of_none e2 n3, by omega, by omega, by omega, by omega⟩
theorem pen_s {ns : List Int} (h : SqL K H x (ns.map V.int)) (l : ns.length ≤ 63) (q : ∀ p l H', H p = none → G.Kp H H' → PenL H' p l 0 → Q (.ref p) H') : sp_pen K [.ref x] H Q E := ⟨x, ns, rfl, h, l, q⟩
end
end Lw

local macro_rules | `(tactic| walk_at "hp") => `(tactic| first
  | (refine Lw.PenL.kp (by assumption) ?_; walk_at "hp"))
local macro_rules | `(tactic| walk_at "gx") => `(tactic| first
  | ((with_reducible refine Lw.draw_p (l := ?z0) (n := ?z1) ?h1 ?h2 ?h3 ?h4 ?_); (case h1 => walk_at "hp"); (case h2 => omega); (case h3 => omega); (case h4 => walk_at "bdw"); intro _ _ _ _ _ _)
  | ((with_reducible refine Lw.pen_s (ns := ?z0) ?h1 ?h2 ?_); (case h1 => walk_at "hp"); (case h2 => assumption); intro _ _ _ _ _ _))

namespace Lw
open PySem PySem.Spec PyProof.Rows L2
section
variable {P : Program} {w : World} {K : PySem.W.Frag} {mg : Str → Option Value} {base : Heap} {H H' : Hp} {Q : VK} {E : XK} {p q l r x u : Addr} {a b c d t m : Int} {v y : V} {n n' : Nat} {xs : List V}
/-- one of the values of a list -/
def sp_pick : Sp := fun vs H Q _ => ∃ p r l n xs, vs = [.ref p, .ref r] ∧ PenL H p l n ∧ n < 1000000 ∧ H r = some (.lst xs) ∧ r ≠ p ∧ xs ≠ [] ∧ xs.length ≤ 1000 ∧ ∀ v H', v ∈ xs → G.Md p H H' → PenL H' p l (n + 1) → Q v H'
theorem atI_mem {xs : List V} {k : Int} (h0 : 0 ≤ k) (h1 : k < (xs.length : Int)) : ∃ v, v ∈ xs ∧ atI xs k = some v := by
  obtain ⟨j, rfl⟩ := Int.eq_ofNat_of_zero_le h0
  have hj : j < xs.length := by omega
  exact ⟨xs[j], List.getElem_mem hj, atI_nat (by simp [hj])⟩
theorem ok_law_pick (T : Tx K mg) : G.FnG P w K mg base CX0 2 (a_law_pick K) (G.fdOf K (a_law_pick K)) ["_law_pen_here", "_law_some"] sp_pick := by
  refine G.ok_of (F_law_pick T) sc_law_pick (fun vs H Q E h => ?_) (fun cdv A outer s H vs Q E hr h => ?_)
  · obtain ⟨p, r, l, n, xs, rfl, _⟩ := h
    rfl
  · obtain ⟨p, r, l, n, xs, rfl, hp, hn, hl, nlp, ne, lz, q⟩ := h
    have l0 : 0 < xs.length := List.length_pos_iff.mpr ne
    have bz : G.Bd 8000 (xs.length : Int) := (G.Bd.of_le (G.Bd.lit 1000) (by omega)).mono (by decide +kernel)
    refine ⟨_, (pss_one (ps_ret (pe_ix ix_seq (pv 1) (G.pe_callG (ok_law_draw T) (hr.mono (by first | decide | omega)) rfl (gl_law_draw T) (F_law_draw T).kp (bi_law_draw T) .nil pass0 (pa_cons (pv 0) (pa_cons (pe_callB G.call_lenG (by rfl) (fr_len T) PySem.boot_len (pa_cons (pv 1) pa_nil)) pa_nil))) (fun _ _ => rfl)))), ?_⟩
    walk_at "start"
    walk_at "go"
    rename_i d H1 k1 p1 d0 d1
    obtain ⟨v, hv, hat⟩ := atI_mem d0 d1
    refine G.ix_l (SqL.of (k1.lst hl nlp)) hat ?_
    exact q v H1 hv k1 p1
theorem pick_p (hp : PenL H p l n) (hn : n < 1000000) (hl : H r = some (.lst xs)) (nlp : r ≠ p) (ne : xs ≠ []) (lz : xs.length ≤ 1000) (z : ∀ v H', v ∈ xs → G.Md p H H' → PenL H' p l (n + 1) → Q v H') : sp_pick [.ref p, .ref r] H Q E := ⟨p, r, l, n, xs, rfl, hp, hn, hl, nlp, ne, lz, z⟩
theorem PenL.neu (e : H u = none) (h : PenL H p l n) : u ≠ p := (h.fresh e).1.symm
end
end Lw

namespace Lw
open PySem PySem.Spec PyProof.Rows L2
section
variable {P : Program} {w : World} {K : PySem.W.Frag} {mg : Str → Option Value} {base : Heap} {H H' : Hp} {Q : VK} {E : XK} {a p : Addr} {t b n d i j t' b' : Int} {v y : V}
theorem mk_R (hb : b ≠ 0) (bt : G.Bd 4000 t) (bb : G.Bd 4000 b) (q : ∀ x H' n d, H x = none → G.Kp H H' → IsR K H' x n d → Low t b n d → Q (.ref x) H') : G.MakeK (He.ga K "Ratio") (sp_Ratio_init K) [] E [.int t, .int b] H Q :=
  G.st_mkK fun x dx H1 hn k hx => ⟨x, dx, t, b, rfl, hx, hb, bt, bb, fun n d H' low j e => ⟨rfl, q x H' n d hn (G.Kp.init hn k j) ⟨⟨dx, e⟩, low.1, low.2.1, bt.of_le (low.le hb).1, bb.of_le (low.le hb).2⟩ low⟩⟩
/-- lowest terms given: the same -/
theorem mk_Rs (hb : 0 < b) (hc : Int.gcd t b = 1) (bt : G.Bd 4000 t) (bb : G.Bd 4000 b) (q : ∀ x H', H x = none → G.Kp H H' → IsR K H' x t b → Q (.ref x) H') : G.MakeK (He.ga K "Ratio") (sp_Ratio_init K) [] E [.int t, .int b] H Q :=
  mk_R (by omega) bt bb fun x H' n d hn k h l => by
    obtain ⟨rfl, rfl⟩ := l.self hb hc
    exact q x H' hn k h
def sp_is_number (K : PySem.W.Frag) : Sp := fun vs H Q _ => ∃ v t b, vs = [v] ∧ Num K H v t b ∧ Q (.bl true) H
theorem ok_Ratio_is_number (T : Tx K mg) : G.FnG P w K mg base CX0 2 (a_Ratio_is_number K) (G.fdOf K (a_Ratio_is_number K)) ["value"] (sp_is_number K) := by
  refine G.ok_of (F_Ratio_is_number T) sc_Ratio_is_number (fun vs H Q E h => ?_) (fun cdv A outer s H vs Q E hr h => ?_)
  · obtain ⟨v, t, b, rfl, _⟩ := h
    rfl
  · obtain ⟨v, t, b, rfl, hv, q⟩ := h
    refine ⟨_, (pss_one (ps_ret (pe_or (pe_callB G.call_isiG (by rfl) (fr_isinstance T) boot_isinstance (pa_cons (pv 0) (pa_cons (G.pe_cl rfl (gl_Ratio T)) pa_nil))) (pe_one (G.pe_callG (ok_is_integer T) (hr.mono (by first | decide | omega)) rfl (gl_is_integer T) (F_is_integer T).kp (bi_is_integer T) .nil pass0 (pa_cons (pv 0) pa_nil)))))), ?_⟩
    walk_at "start"
    rcases hv with ⟨rfl, rfl, _⟩ | ⟨a, rfl, ha⟩
    · walk_at "gob"
      exact q
    · walk_at "gob"
      exact q
theorem is_number_n (h : Num K H v t b) (q : Q (.bl true) H) : sp_is_number K [v] H Q E := ⟨v, t, b, rfl, h, q⟩
theorem is_number_i (h : G.Bd 4000 i) (q : Q (.bl true) H) : sp_is_number K [.int i] H Q E := is_number_n (.of_int h) q
theorem is_number_R (h : IsR K H a t b) (q : Q (.bl true) H) : sp_is_number K [.ref a] H Q E := is_number_n (.of_r h) q
def sp_of (K : PySem.W.Frag) : Sp := fun vs H Q _ => ∃ v t b, vs = [v] ∧ Num K H v t b ∧ ∀ x H', H x = none → G.Kp H H' → IsR K H' x t b → Q (.ref x) H'
end
end Lw

local macro_rules | `(tactic| walk_at "gx") => `(tactic| first
  | ((with_reducible refine Lw.is_number_i ?h ?_); (case h => walk_at "bdw"))
  | ((with_reducible refine Lw.is_number_R (t := ?z0) (b := ?z1) ?h ?_); (case h => walk_at "hp"))
  | ((with_reducible refine Lw.is_number_n (t := ?z0) (b := ?z1) ?h ?_); (case h => walk_at "hp"))
  | ((with_reducible refine Lw.mk_Rs ?h1 ?h2 ?h3 ?h4 ?_); (case h1 => first | assumption | omega); (case h2 => assumption); (case h3 => walk_at "bdw"); (case h4 => walk_at "bdw"); intro _ _ _ _ _)
  | ((with_reducible refine Lw.mk_R ?h1 ?h3 ?h4 ?_); (case h1 => first | assumption | omega); (case h3 => walk_at "bdw"); (case h4 => walk_at "bdw"); intro _ _ _ _ _ _ _ _))

namespace Lw
open PySem PySem.Spec PyProof.Rows L2
/-! ### fractions: what is asked of them here -/
section
variable {P : Program} {w : World} {K : PySem.W.Frag} {mg : Str → Option Value} {base : Heap} {H H' : Hp} {Q : VK} {E : XK} {a p x y : Addr} {t b n d i j t' b' n' d' : Int} {v : V}
theorem dvd_cop {n d m : Int} (c : Int.gcd n d = 1) (h : d ∣ n * m) : d ∣ m := by
  have h1 : d.natAbs ∣ n.natAbs * m.natAbs := by
    rw [← Int.natAbs_mul]
    exact Int.natAbs_dvd_natAbs.mpr h
  have c1 : Nat.Coprime d.natAbs n.natAbs := (Nat.gcd_comm _ _).trans c
  exact Int.natAbs_dvd_natAbs.mp (Nat.Coprime.dvd_of_dvd_mul_left c1 h1)
theorem Low.uniq (hb : b ≠ 0) (h : Low t b n d) (k : Low t b n' d') : n = n' ∧ d = d' := by
  obtain ⟨p1, c1, g, e1, e2⟩ := h
  obtain ⟨p2, c2, g', e3, e4⟩ := k
  have gp : g ≠ 0 := fun z => hb (by rw [e2, z, Int.mul_zero])
  have gp' : g' ≠ 0 := fun z => hb (by rw [e4, z, Int.mul_zero])
  have q1 : n * g = n' * g' := by rw [← e1, ← e3]
  have q2 : d * g = d' * g' := by rw [← e2, ← e4]
  have cross : n * d' = n' * d := by
    have q3 : (n * d') * (g * g') = (n' * d) * (g * g') := by
      calc (n * d') * (g * g') = (n * g) * (d' * g') := by simp only [Int.mul_assoc, Int.mul_left_comm, Int.mul_comm]
        _ = (n' * g') * (d * g) := by rw [q1, q2]
        _ = (n' * d) * (g * g') := by simp only [Int.mul_assoc, Int.mul_left_comm, Int.mul_comm]
    exact Int.eq_of_mul_eq_mul_right (Int.mul_ne_zero gp gp') q3
  have d1 : d ∣ d' := dvd_cop c1 ⟨n', by rw [cross, Int.mul_comm]⟩
  have d2 : d' ∣ d := dvd_cop c2 ⟨n, by rw [← cross, Int.mul_comm]⟩
  have ed : d = d' := Int.le_antisymm (Int.le_of_dvd p2 d1) (Int.le_of_dvd p1 d2)
  subst ed
  exact ⟨Int.eq_of_mul_eq_mul_right (by omega) cross, rfl⟩
/-! promises -/
def sp_Rfifth (K : PySem.W.Frag) : Sp := fun vs H Q _ => ∃ a t b, vs = [.ref a] ∧ IsR K H a t b ∧ 0 < t ∧ t < b ∧ Q (.bl true) H
def sp_need_fifth (K : PySem.W.Frag) : Sp := fun vs H Q _ => ∃ a t b, vs = [.ref a] ∧ IsR K H a t b ∧ 0 < t ∧ t < b ∧ Q .non H
def sp_key_of (K : PySem.W.Frag) : Sp := fun vs H Q _ => ∃ a t b n, vs = [.int n, .ref a] ∧ IsR K H a t b ∧ G.Bd 700 n ∧ Q (.int (n * t % b)) H
def sp_Radd (K : PySem.W.Frag) : Sp := fun vs H Q _ => ∃ a t b v t' b', vs = [.ref a, v] ∧ IsR K H a t b ∧ Num K H v t' b' ∧ G.Bd 900 t ∧ G.Bd 900 b ∧ G.Bd 900 t' ∧ G.Bd 900 b' ∧ ∀ z H' n d, H z = none → G.Kp H H' → IsR K H' z n d → Low (t * b' + t' * b) (b * b') n d → Q (.ref z) H'
def sp_Rneg (K : PySem.W.Frag) : Sp := fun vs H Q _ => ∃ a t b, vs = [.ref a] ∧ IsR K H a t b ∧ ∀ z H', H z = none → G.Kp H H' → IsR K H' z (-t) b → Q (.ref z) H'
def sp_Rrsub (K : PySem.W.Frag) : Sp := fun vs H Q _ => ∃ a t b, vs = [.ref a, .int 1] ∧ IsR K H a t b ∧ G.Bd 900 t ∧ G.Bd 900 b ∧ ∀ z H', H z = none → G.Kp H H' → IsR K H' z (b - t) b → Q (.ref z) H'
def sp_Req (K : PySem.W.Frag) : Sp := fun vs H Q _ => ∃ a t b v t' b', vs = [.ref a, v] ∧ IsR K H a t b ∧ Num K H v t' b' ∧ ∀ H', G.Kp H H' → Q (.bl (decide (t = t' ∧ b = b'))) H'
theorem ok_Ratio_is_fifth (T : Tx K mg) : G.FnG P w K mg base CX0 1 (a_Ratio_is_fifth K) (G.fdOf K (a_Ratio_is_fifth K)) ["value"] (sp_Rfifth K) := by
  refine G.ok_of (F_Ratio_is_fifth T) sc_Ratio_is_fifth (fun vs H Q E h => ?_) (fun cdv A outer s H vs Q E hr h => ?_)
  · obtain ⟨a, t, b, rfl, _⟩ := h
    rfl
  · obtain ⟨a, t, b, rfl, ha, h0, h1, q⟩ := h
    rw [show true = decide (t < b) by simp [h1]] at q
    refine ⟨_, (pss_one (ps_ret (pe_and (pe_callB G.call_isiG (by rfl) (fr_isinstance T) boot_isinstance (pa_cons (pv 0) (pa_cons (G.pe_cl rfl (gl_Ratio T)) pa_nil))) (pe_one (pe_chain G.op_ltG G.op_ltG pe_int (pe_fld (pv 0) rfl) (pe_fld (pv 0) rfl)))))), ?_⟩
    walk_at "start"
    walk_at "gob"
    exact q
theorem ok_key_of (T : Tx K mg) : G.FnG P w K mg base CX0 1 (a_key_of K) (G.fdOf K (a_key_of K)) ["number", "fifth"] (sp_key_of K) := by
  refine G.ok_of (F_key_of T) sc_key_of (fun vs H Q E h => ?_) (fun cdv A outer s H vs Q E hr h => ?_)
  · obtain ⟨a, t, b, n, rfl, _⟩ := h
    rfl
  · obtain ⟨a, t, b, n, rfl, ha, bn, q⟩ := h
    have bt := ha.bt
    have h0 := ha.pos
    refine ⟨_, (pss_one (ps_ret (pe_callTy G.call_intG (by rfl) (fr_int T) boot_int (pa_cons (pe_op G.op_modG (pe_op G.op_mulG (pv 0) (pe_fld (pv 1) rfl)) (pe_fld (pv 1) rfl)) pa_nil)))), ?_⟩
    walk_at "start"
    walk_at "gob"
    exact q
/-! rows -/
theorem Rfifth_R (h : IsR K H a t b) (h0 : 0 < t) (h1 : t < b) (q : Q (.bl true) H) : sp_Rfifth K [.ref a] H Q E := ⟨a, t, b, rfl, h, h0, h1, q⟩
theorem need_fifth_R (h : IsR K H a t b) (h0 : 0 < t) (h1 : t < b) (q : Q .non H) : sp_need_fifth K [.ref a] H Q E := ⟨a, t, b, rfl, h, h0, h1, q⟩
theorem key_of_R (h : IsR K H a t b) (bn : G.Bd 700 n) (q : Q (.int (n * t % b)) H) : sp_key_of K [.int n, .ref a] H Q E := ⟨a, t, b, n, rfl, h, bn, q⟩
theorem neg_R (h : IsR K H a t b) (q : ∀ z H', H z = none → G.Kp H H' → IsR K H' z (-t) b → Q (.ref z) H') : G.rNegO (He.ga K "Ratio") (sp_Rneg K) E (.ref a) H Q :=
  let ⟨dx, e1⟩ := h.at_
  ⟨a, dx, _, rfl, e1, a, t, b, rfl, h, q⟩
theorem add_Ri (h : IsR K H a t b) (b1 : G.Bd 900 t) (b2 : G.Bd 900 b) (b3 : G.Bd 900 i) (q : ∀ z H' n d, H z = none → G.Kp H H' → IsR K H' z n d → Low (t * 1 + i * b) (b * 1) n d → Q (.ref z) H') : G.rBinI (He.ga K "Ratio") (sp_Radd K) E (.ref a) (.int i) H Q :=
  let ⟨dx, e1⟩ := h.at_
  ⟨a, dx, _, i, rfl, rfl, e1, a, t, b, .int i, i, 1, rfl, h, .of_int (b3.mono (by decide)), b1, b2, b3, (G.Bd.lit 1).mono (by decide), q⟩
theorem rsub_R (h : IsR K H a t b) (b1 : G.Bd 900 t) (b2 : G.Bd 900 b) (q : ∀ z H', H z = none → G.Kp H H' → IsR K H' z (b - t) b → Q (.ref z) H') : G.rBinR (He.ga K "Ratio") (sp_Rrsub K) E (.int 1) (.ref a) H Q :=
  let ⟨dx, e1⟩ := h.at_
  ⟨a, dx, _, 1, rfl, rfl, e1, a, t, b, rfl, h, b1, b2, q⟩
theorem ne_RR (T : Tx K mg) (h : IsR K H a t b) (k : IsR K H x t' b') (q : ∀ H', G.Kp H H' → Q (.bl (!decide (t = t' ∧ b = b'))) H') : G.rNeO K (He.ga K "Ratio") (sp_Req K) E (.ref a) (.ref x) H Q :=
  let ⟨dx, e1⟩ := h.at_
  ⟨a, dx, _, _, rfl, e1, k.ty T, nf_Ratio_Ratio T, a, t, b, _, t', b', rfl, h, .of_r k, fun H' z => ⟨_, rfl, q H' z⟩⟩
end
end Lw

local macro_rules | `(tactic| walk_at "gx") => `(tactic| first
  | ((with_reducible refine Lw.Rfifth_R (t := ?z0) (b := ?z1) ?h1 ?h2 ?h3 ?_); (case h1 => walk_at "hp"); (case h2 => assumption); (case h3 => assumption))
  | ((with_reducible refine Lw.need_fifth_R (t := ?z0) (b := ?z1) ?h1 ?h2 ?h3 ?_); (case h1 => walk_at "hp"); (case h2 => first | assumption | omega); (case h3 => first | assumption | omega))
  | ((with_reducible refine Lw.key_of_R (t := ?z0) (b := ?z1) ?h1 ?h2 ?_); (case h1 => walk_at "hp"); (case h2 => walk_at "bdw"))
  | ((with_reducible refine Lw.neg_R (t := ?z0) (b := ?z1) ?h1 ?_); (case h1 => walk_at "hp"); intro _ _ _ _ _)
  | ((with_reducible refine Lw.add_Ri (t := ?z0) (b := ?z1) ?h1 ?h2 ?h3 ?h4 ?_); (case h1 => walk_at "hp"); (case h2 => walk_at "bdw"); (case h3 => walk_at "bdw"); (case h4 => walk_at "bdw"); intro _ _ _ _ _ _ _ _)
  | ((with_reducible refine Lw.rsub_R (t := ?z0) (b := ?z1) ?h1 ?h2 ?h3 ?_); (case h1 => walk_at "hp"); (case h2 => walk_at "bdw"); (case h3 => walk_at "bdw"); intro _ _ _ _ _)
  | ((with_reducible refine Lw.ne_RR (t := ?z0) (b := ?z1) (t' := ?z2) (b' := ?z3) (by assumption) ?h1 ?h2 ?_); (case h1 => walk_at "hp"); (case h2 => walk_at "hp"); intro _ _))

namespace Lw
open PySem PySem.Spec PyProof.Rows L2
section
variable {P : Program} {w : World} {K : PySem.W.Frag} {mg : Str → Option Value} {base : Heap} {H H' : Hp} {Q : VK} {E : XK} {a p x y : Addr} {t b n d i j t' b' n' d' : Int} {v : V}
theorem ok_is_fifth (T : Tx K mg) : G.FnG P w K mg base CX0 2 (a_is_fifth K) (G.fdOf K (a_is_fifth K)) ["value"] (sp_Rfifth K) := by
  refine G.ok_of (F_is_fifth T) sc_is_fifth (fun vs H Q E h => ?_) (fun cdv A outer s H vs Q E hr h => ?_)
  · obtain ⟨a, t, b, rfl, _⟩ := h
    rfl
  · obtain ⟨a, t, b, rfl, ha, h0, h1, q⟩ := h
    refine ⟨_, (pss_one (ps_ret (pe_and (pe_callB G.call_isiG (by rfl) (fr_isinstance T) boot_isinstance (pa_cons (pv 0) (pa_cons (G.pe_cl rfl (gl_Ratio T)) pa_nil))) (pe_one (G.pe_smeth (G.pe_cl rfl (gl_Ratio T)) (rd_Ratio T) (sm_Ratio_is_fifth T) (ok_Ratio_is_fifth T) (hr.mono (by first | decide | omega)) (bi_Ratio_is_fifth T) .nil pass0 (pa_cons (pv 0) pa_nil)))))), ?_⟩
    walk_at "start"
    walk_at "gob"
    exact q
theorem ok_need_fifth (T : Tx K mg) : G.FnG P w K mg base CX0 3 (a_need_fifth K) (G.fdOf K (a_need_fifth K)) ["value"] (sp_need_fifth K) := by
  refine G.ok_of (F_need_fifth T) sc_need_fifth (fun vs H Q E h => ?_) (fun cdv A outer s H vs Q E hr h => ?_)
  · obtain ⟨a, t, b, rfl, _⟩ := h
    rfl
  · obtain ⟨a, t, b, rfl, ha, h0, h1, q⟩ := h
    refine ⟨_, (pss_one (ps_if (pt_not (pt_val (G.pe_callG (ok_is_fifth T) (hr.mono (by first | decide | omega)) rfl (gl_is_fifth T) (F_is_fifth T).kp (bi_is_fifth T) .nil pass0 (pa_cons (pv 0) pa_nil)))) (pss_one ps_never) pss_nil)), ?_⟩
    walk_at "start"
    walk_at "gob"
    exact q
end
end Lw

namespace Lw
open PySem PySem.Spec PyProof.Rows L2
/-! ### tones and terms -/
section
variable {P : Program} {w : World} {K : PySem.W.Frag} {mg : Str → Option Value} {base : Heap} {H H' : Hp} {Q : VK} {E : XK} {p q x y a b C : Addr} {o f u g i j z z' : Int} {v : V} {mv mv' : Bool} {R : Prop} {xs : List V}
def mvi (mv : Bool) : Int := if mv then 1 else 0
def ltr (mv : Bool) : Str := if mv then "n" else "f"
/-- a class of terms -/
structure TmC (K : PySem.W.Frag) (C : Addr) (mv : Bool) : Prop where
  cl : Cls K C
  is_ : G.IsiC K C
  na : NoAttr K C "number"
  con : ∃ u, Con K C "MOVES" (.int (mvi mv)) u
  pr : ∃ p, PropOf K C "is_moving" p (a_Term_is_moving K)
  note : Meth K C "note" (a_Term_note K)
  eq : G.OwnM K C "__eq__" (a_Term_eq K)
  ne : G.NeM K C (a_Term_eq K)
  kTm : PySem.W.kitOne K (.ref C) (.ref (He.ga K "Term")) = some true
  nN : PySem.W.notFirst K C (.ref (He.ga K "Note")) = true
  nM : PySem.W.notFirst K C (.ref (He.ga K "Moving")) = true
theorem tc_Note (T : Tx K mg) : TmC K (He.ga K "Note") false := ⟨cl_Note T, is_Note T, na_Note_number T, co_Note T, pr_Note_is_moving T, me_Note_note T, ow_Note_eq T, ne_Note T, ki_Note_Term T, nf_Note_Note T, nf_Note_Moving T⟩
theorem tc_Moving (T : Tx K mg) : TmC K (He.ga K "Moving") true := ⟨cl_Moving T, is_Moving T, na_Moving_number T, co_Moving T, pr_Moving_is_moving T, me_Moving_note T, ow_Moving_eq T, ne_Moving T, ki_Moving_Term T, nf_Moving_Note T, nf_Moving_Moving T⟩
def tmA (K : PySem.W.Frag) (mv : Bool) : Addr := if mv then He.ga K "Moving" else He.ga K "Note"
theorem tc_ (T : Tx K mg) : ∀ mv, TmC K (tmA K mv) mv
  | true => tc_Moving T
  | false => tc_Note T
/-- a term: moving or not, its number -/
def IsTm (K : PySem.W.Frag) (H : Hp) (x : Addr) (mv : Bool) (z : Int) : Prop := ∃ dx, H x = some (.ins (tmA K mv) dx [("number", .int z)])
theorem IsTm.kp (k : G.Kp H H') (h : IsTm K H x mv z) : IsTm K H' x mv z := let ⟨dx, e⟩ := h; ⟨dx, k _ _ e⟩
theorem IsTm.md (k : G.Md p H H') (h : IsTm K H x mv z) : IsTm K H' x mv z := let ⟨dx, e⟩ := h; ⟨dx, k.ins e⟩
theorem IsTm.ty (T : Tx K mg) (h : IsTm K H x mv z) : TyX K H (.ref x) (.ref (tmA K mv)) := let ⟨_, e⟩ := h; .base (.ins e (tc_ T mv).cl (tc_ T mv).is_.ha (tc_ T mv).is_.hn (tc_ T mv).is_.ht (tc_ T mv).is_.hm)
theorem TmC.nT2 (h : TmC K C mv) : ∀ mv', PySem.W.notFirst K C (.ref (tmA K mv')) = true
  | true => h.nM
  | false => h.nN
theorem lnum {v : V} : List.lookup ("number" : Str) ([("number", v)] : List (Str × V)) = some v := by simp [List.lookup]
theorem lnone {v : V} {m : Str} (h : (m == ("number" : Str)) = false) : List.lookup m ([("number", v)] : List (Str × V)) = none := by simp [List.lookup, h]
theorem fld_num (T : Tx K mg) (h : IsTm K H x mv z) (q : Q (.int z) H) : G.FldK K "number" (.ref x) H Q := let ⟨_, e⟩ := h; G.st_fldK e (tc_ T mv).cl (tc_ T mv).na lnum q
theorem con_moves (T : Tx K mg) (h : IsTm K H x mv z) (q : Q (.int (mvi mv)) H) : G.ConK K "MOVES" (.ref x) H Q :=
  let ⟨_, e⟩ := h
  let ⟨u, c⟩ := (tc_ T mv).con
  ⟨x, _, _, _, _, u, rfl, e, (tc_ T mv).cl, c, lnone (by decide +kernel), q⟩
theorem prop_mv (T : Tx K mg) (h : IsTm K H x mv z) (q : R) : G.PropK K "is_moving" (a_Term_is_moving K) (.ref x) H R :=
  let ⟨_, e⟩ := h
  let ⟨p, c⟩ := (tc_ T mv).pr
  ⟨x, _, _, _, p, rfl, e, (tc_ T mv).cl, c, q⟩
theorem rc_note (T : Tx K mg) (h : IsTm K H x mv z) (q : R) : G.RecvP K "note" (a_Term_note K) (.ref x) H R := let ⟨_, e⟩ := h; ⟨x, _, _, _, rfl, e, (tc_ T mv).cl, (tc_ T mv).note, lnone (by decide +kernel), q⟩
theorem isi_Tm (T : Tx K mg) (h : IsTm K H x mv z) (q : Q (.bl true) H) : G.rIsiG K [.ref x, .ref (He.ga K "Term")] H Q := G.isi_cl (h.ty T) (tc_ T mv).kTm q
theorem isi_oTm {tv : Value} (ty : TyX K H v tv) (k : PySem.W.kitOne K tv (.ref (He.ga K "Term")) = some false) (q : Q (.bl false) H) : G.rIsiG K [v, .ref (He.ga K "Term")] H Q := G.isi_cl ty k q
/-! promises -/
def sp_between : Sp := fun vs H Q _ => ∃ i a b, vs = [.int i, .int a, .int b] ∧ Q (.bl (decide (a ≤ i ∧ i ≤ b))) H
def sp_need_note : Sp := fun vs H Q _ => ∃ i, vs = [.int i] ∧ Q .non H
def sp_Term_init (K : PySem.W.Frag) : Sp := fun vs H Q _ => ∃ x dx mv z, vs = [.ref x, .int z] ∧ H x = some (.ins (tmA K mv) dx []) ∧ -12 ≤ z ∧ z ≤ 12 ∧ ∀ H', G.Mi x H H' → H' x = some (.ins (tmA K mv) dx [("number", .int z)]) → Q .non H'
def sp_mving (K : PySem.W.Frag) : Sp := fun vs H Q _ => ∃ x mv z, vs = [.ref x] ∧ IsTm K H x mv z ∧ Q (.bl mv) H
def sp_note (K : PySem.W.Frag) : Sp := fun vs H Q _ => ∃ x mv z n, vs = [.ref x, .int n] ∧ IsTm K H x mv z ∧ Q (.int (n * mvi mv + z)) H
def sp_Tmeq (K : PySem.W.Frag) : Sp := fun vs H Q _ => ∃ x mv z v, vs = [.ref x, v] ∧ IsTm K H x mv z ∧ ((∃ y mv' z', v = .ref y ∧ IsTm K H y mv' z' ∧ Q (.bl (decide (mv = mv' ∧ z = z'))) H) ∨ ∃ tv, TyX K H v tv ∧ PySem.W.kitOne K tv (.ref (He.ga K "Term")) = some false ∧ Q (.bl false) H)
/-! rows -/
theorem between_i (q : Q (.bl (decide (i ≤ j ∧ j ≤ o))) H) : sp_between [.int j, .int i, .int o] H Q E := ⟨j, i, o, rfl, q⟩
theorem need_note_i (q : Q .non H) : sp_need_note [.int i] H Q E := ⟨i, rfl, q⟩
theorem mving_T (h : IsTm K H x mv z) (q : Q (.bl mv) H) : sp_mving K [.ref x] H Q E := ⟨x, mv, z, rfl, h, q⟩
theorem note_T (h : IsTm K H x mv z) (q : Q (.int (i * mvi mv + z)) H) : sp_note K [.ref x, .int i] H Q E := ⟨x, mv, z, i, rfl, h, q⟩
theorem mk_Mo (h1 : -12 ≤ z) (h2 : z ≤ 12) (q : ∀ p H', H p = none → G.Kp H H' → IsTm K H' p true z → Q (.ref p) H') : G.MakeK (He.ga K "Moving") (sp_Term_init K) [] E [.int z] H Q :=
  G.st_mkK fun x dx H1 hn k hx => ⟨x, dx, true, z, rfl, hx, h1, h2, fun H' j e => ⟨rfl, q x H' hn (G.Kp.init hn k j) ⟨dx, e⟩⟩⟩
theorem mk_No (h1 : -12 ≤ z) (h2 : z ≤ 12) (q : ∀ p H', H p = none → G.Kp H H' → IsTm K H' p false z → Q (.ref p) H') : G.MakeK (He.ga K "Note") (sp_Term_init K) [] E [.int z] H Q :=
  G.st_mkK fun x dx H1 hn k hx => ⟨x, dx, false, z, rfl, hx, h1, h2, fun H' j e => ⟨rfl, q x H' hn (G.Kp.init hn k j) ⟨dx, e⟩⟩⟩
theorem eq_mm (T : Tx K mg) (h : IsTm K H x mv z) (k : IsTm K H y mv' z') (q : Q (.bl (decide (mv = mv' ∧ z = z'))) H) : G.rCmpP K (cmpInfo .Eq).2.1 (a_Term_eq K) (sp_Tmeq K) E (.ref x) (.ref y) H Q :=
  let ⟨dx, e⟩ := h
  ⟨x, _, dx, _, _, rfl, e, (tc_ T mv).eq, k.ty T, (tc_ T mv).nT2 mv', x, mv, z, _, rfl, h, .inl ⟨y, mv', z', rfl, k, q⟩⟩
theorem ne_mm (T : Tx K mg) (h : IsTm K H x mv z) (k : IsTm K H y mv' z') (q : Q (.bl (!decide (mv = mv' ∧ z = z'))) H) : G.rNeP K (a_Term_eq K) (sp_Tmeq K) E (.ref x) (.ref y) H Q :=
  let ⟨dx, e⟩ := h
  ⟨x, _, dx, _, _, rfl, e, (tc_ T mv).ne, k.ty T, (tc_ T mv).nT2 mv', x, mv, z, _, rfl, h, .inl ⟨y, mv', z', rfl, k, _, rfl, q⟩⟩
end
end Lw

local macro_rules | `(tactic| walk_at "hp") => `(tactic| first
  | (refine Lw.IsTm.kp (by assumption) ?_; walk_at "hp")
  | (refine Lw.IsTm.md (by assumption) ?_; walk_at "hp")
  | (refine Lw.IsT.kp (by assumption) ?_; walk_at "hp")
  | (refine Lw.IsT.md (by assumption) ?_; walk_at "hp"))
local macro_rules | `(tactic| walk_at "g") => `(tactic| first
  | with_reducible refine G.st_methP ?_
  | with_reducible refine G.st_propP ?_
  | with_reducible refine G.st_con ?_
  | with_reducible refine G.repr_i (by walk_at "bd") (by first | decide +kernel | omega) ?_
  | ((with_reducible refine' G.repr_lib (i := ?z0) (b := ?z1) ?h ?b1 ?l1 ?_); (case h => walk_at "hp"); (case b1 => walk_at "bd"); (case l1 => first | decide +kernel | omega))
  | ((with_reducible refine G.eq_l4b (i0 := ?z0) (i1 := ?z1) (i2 := ?z2) (i3 := ?z3) (j0 := ?z4) (j1 := ?z5) (j2 := ?z6) (j3 := ?z7) ?h1 ?h2 ?_); (case h1 => walk_at "hp"); (case h2 => walk_at "hp"))
  | ((with_reducible refine G.ne_l0 ?h1 ?h2 ?_); (case h1 => walk_at "hp"); (case h2 => walk_at "hp")))
local macro_rules | `(tactic| walk_at "gx") => `(tactic| first
  | ((with_reducible refine Lw.fld_num (mv := ?z0) (z := ?z1) (by assumption) ?h ?_); (case h => walk_at "hp"))
  | ((with_reducible refine Lw.con_moves (mv := ?z0) (z := ?z1) (by assumption) ?h ?_); (case h => walk_at "hp"))
  | ((with_reducible refine Lw.prop_mv (mv := ?z0) (z := ?z1) (by assumption) ?h ?_); (case h => walk_at "hp"))
  | ((with_reducible refine Lw.rc_note (mv := ?z0) (z := ?z1) (by assumption) ?h ?_); (case h => walk_at "hp"))
  | ((with_reducible refine Lw.rc_pos (mv := ?z0) (z := ?z1) (by assumption) ?h ?_); (case h => walk_at "hp"))
  | ((with_reducible refine Lw.rc_wit (mv := ?z0) (z := ?z1) (by assumption) ?h ?_); (case h => walk_at "hp"))
  | ((with_reducible refine Lw.rc_mov (mv := ?z0) (z := ?z1) (by assumption) ?h ?_); (case h => walk_at "hp"))
  | ((with_reducible refine Lw.rc_mir (mv := ?z0) (z := ?z1) (by assumption) ?h ?_); (case h => walk_at "hp"))
  | ((with_reducible refine Lw.isi_Tm (mv := ?z0) (z := ?z1) (by assumption) ?h ?_); (case h => walk_at "hp"))
  | ((with_reducible refine Lw.isi_Mo (mv := ?z0) (z := ?z1) (by assumption) ?h ?_); (case h => walk_at "hp"))
  | ((with_reducible refine Lw.isi_No (mv := ?z0) (z := ?z1) (by assumption) ?h ?_); (case h => walk_at "hp"))
  | ((with_reducible refine Lw.isi_To (mv := ?z0) (z := ?z1) (by assumption) ?h ?_); (case h => walk_at "hp"))
  | with_reducible refine Lw.isi_oTm (by assumption) (by assumption) ?_
  | with_reducible refine Lw.between_i ?_
  | with_reducible refine Lw.need_note_i ?_
  | ((with_reducible refine Lw.mving_T (mv := ?z0) (z := ?z1) ?h ?_); (case h => walk_at "hp"))
  | ((with_reducible refine Lw.note_T (mv := ?z0) (z := ?z1) ?h ?_); (case h => walk_at "hp"))
  | ((with_reducible refine Lw.pos_T (mv := ?z0) (z := ?z1) (t := ?z2) (b := ?z3) ?h1 ?h2 ?h3 ?h4 ?h5 ?h6 ?_); (case h1 => walk_at "hp"); (case h2 => walk_at "hp"); (case h3 => first | assumption | omega); (case h4 => first | assumption | omega); (case h5 => walk_at "bdw"); (case h6 => walk_at "bdw"); intro _ _ _ _ _ _ _ _)
  | ((with_reducible refine Lw.wit_T (mv := ?z0) (z := ?z1) ?h1 ?h2 ?h3 ?_); (case h1 => walk_at "hp"); (case h2 => omega); (case h3 => omega); intro _ _ _ _ _)
  | ((with_reducible refine Lw.moved_T (mv := ?z0) (z := ?z1) ?h1 ?h2 ?h3 ?_); (case h1 => walk_at "hp"); (case h2 => omega); (case h3 => omega); intro _ _ _ _ _)
  | ((with_reducible refine Lw.mir_T (mv := ?z0) (z := ?z1) ?h1 ?h2 ?h3 ?_); (case h1 => walk_at "hp"); (case h2 => omega); (case h3 => omega); intro _ _ _ _ _)
  | ((with_reducible refine Lw.mk_Mo ?h2 ?h3 ?_); (case h2 => omega); (case h3 => omega); intro _ _ _ _ _)
  | ((with_reducible refine Lw.mk_No ?h2 ?h3 ?_); (case h2 => omega); (case h3 => omega); intro _ _ _ _ _)
  | ((with_reducible refine Lw.mk_T1 ?_); intro _ _ _ _ _)
  | ((with_reducible refine Lw.eq_mm (mv := ?z0) (z := ?z1) (mv' := ?z2) (z' := ?z3) (by assumption) ?h1 ?h2 ?_); (case h1 => walk_at "hp"); (case h2 => walk_at "hp"))
  | ((with_reducible refine Lw.ne_mm (mv := ?z0) (z := ?z1) (mv' := ?z2) (z' := ?z3) (by assumption) ?h1 ?h2 ?_); (case h1 => walk_at "hp"); (case h2 => walk_at "hp"))
  | ((with_reducible refine Lw.eq_mo (mv := ?z0) (z := ?z1) (by assumption) ?h1 ?h2 ?_); (case h1 => walk_at "hp"); (case h2 => walk_at "hp"))
  | ((with_reducible refine Lw.ne_mo (mv := ?z0) (z := ?z1) (by assumption) ?h1 ?h2 ?_); (case h1 => walk_at "hp"); (case h2 => walk_at "hp")))
local macro_rules | `(tactic| walk_at "hp") => `(tactic| (refine Lw.Odd.kp (by assumption) ?_; walk_at "hp"))

namespace Lw
open PySem PySem.Spec PyProof.Rows L2
section
variable {P : Program} {w : World} {K : PySem.W.Frag} {mg : Str → Option Value} {base : Heap}
theorem bd_mvi (mv : Bool) : G.Bd 1 (mvi mv) := by cases mv <;> (show Int.natAbs _ < 2 ^ 1; decide)
theorem ok_is_between (T : Tx K mg) : G.FnG P w K mg base CX0 2 (a_is_between K) (G.fdOf K (a_is_between K)) ["value", "least", "most"] sp_between := by
  refine G.ok_of (F_is_between T) sc_is_between (fun vs H Q E h => ?_) (fun cdv A outer s H vs Q E hr h => ?_)
  · obtain ⟨i, a, b, rfl, _⟩ := h
    rfl
  · obtain ⟨i, a, b, rfl, q⟩ := h
    refine ⟨_, (pss_one (ps_ret (pe_and (G.pe_callG (ok_is_integer T) (hr.mono (by first | decide | omega)) rfl (gl_is_integer T) (F_is_integer T).kp (bi_is_integer T) .nil pass0 (pa_cons (pv 0) pa_nil)) (pe_one (pe_chain G.op_leG G.op_leG (pv 1) (pv 0) (pv 2)))))), ?_⟩
    walk_at "start"
    walk_at "gob"
    · rename_i hc
      rw [show decide (a ≤ i ∧ i ≤ b) = decide (i ≤ b) by simp [hc]] at q
      exact q
    · rename_i hc
      rw [show decide (a ≤ i ∧ i ≤ b) = false by simp [hc]] at q
      exact q
theorem ok_need_note (T : Tx K mg) : G.FnG P w K mg base CX0 2 (a_need_note K) (G.fdOf K (a_need_note K)) ["n"] sp_need_note := by
  refine G.ok_of (F_need_note T) sc_need_note (fun vs H Q E h => ?_) (fun cdv A outer s H vs Q E hr h => ?_)
  · obtain ⟨i, rfl, _⟩ := h
    rfl
  · obtain ⟨i, rfl, q⟩ := h
    refine ⟨_, (pss_one (ps_if (pt_not (pt_val (G.pe_callG (ok_is_integer T) (hr.mono (by first | decide | omega)) rfl (gl_is_integer T) (F_is_integer T).kp (bi_is_integer T) .nil pass0 (pa_cons (pv 0) pa_nil)))) (pss_one ps_never) pss_nil)), ?_⟩
    walk_at "start"
    walk_at "gob"
    exact q
theorem ok_Term_init (T : Tx K mg) : G.FnG P w K mg base CX0 4 (a_Term_init K) (G.fdOf K (a_Term_init K)) ["self", "number"] (sp_Term_init K) := by
  refine G.ok_of (F_Term_init T) sc_Term_init (fun vs H Q E h => ?_) (fun cdv A outer s H vs Q E hr h => ?_)
  · obtain ⟨x, dx, mv, z, rfl, _⟩ := h
    rfl
  · obtain ⟨x, dx, mv, z, rfl, hx, h1, h2, q⟩ := h
    refine ⟨_, (pss_cons (ps_if (pt_not (pt_val (G.pe_callG (ok_is_between T) (hr.mono (by first | decide | omega)) rfl (gl_is_between T) (F_is_between T).kp (bi_is_between T) .nil pass0 (pa_cons (pv 1) (pa_cons (pe_un G.un_negG (Exists.elim (gi_MOST_NUMBER T) fun _ hM => pe_glob (v := .int 12) rfl hM ⟨_, rfl⟩)) (pa_cons (Exists.elim (gi_MOST_NUMBER T) fun _ hM => pe_glob (v := .int 12) rfl hM ⟨_, rfl⟩) pa_nil)))))) (pss_one ps_never) pss_nil)
    (pss_one (ps_fld (pv 0) (pv 1) rfl))), ?_⟩
    walk_at "start"
    walk_at "gob"
    refine G.st_setfldM hx (tc_ T mv).cl (tc_ T mv).na (by decide) fun H6 m6 e6 => ?_
    walk_at "gob"
    exact q H6 m6 e6
theorem ok_Term_is_moving (T : Tx K mg) : G.FnG P w K mg base CX0 1 (a_Term_is_moving K) (G.fdOf K (a_Term_is_moving K)) ["self"] (sp_mving K) := by
  refine G.ok_of (F_Term_is_moving T) sc_Term_is_moving (fun vs H Q E h => ?_) (fun cdv A outer s H vs Q E hr h => ?_)
  · obtain ⟨x, mv, z, rfl, _⟩ := h
    rfl
  · obtain ⟨x, mv, z, rfl, h1, q⟩ := h
    rw [show mv = decide (mvi mv = 1) by cases mv <;> rfl] at q
    refine ⟨_, (pss_one (ps_ret (pe_cmpR (G.op_eqG hr.units) (pe_con (pv 0) rfl) pe_int (nomark _)))), ?_⟩
    walk_at "start"
    walk_at "gob"
    exact q
theorem ok_Term_note (T : Tx K mg) : G.FnG P w K mg base CX0 3 (a_Term_note K) (G.fdOf K (a_Term_note K)) ["self", "n"] (sp_note K) := by
  refine G.ok_of (F_Term_note T) sc_Term_note (fun vs H Q E h => ?_) (fun cdv A outer s H vs Q E hr h => ?_)
  · obtain ⟨x, mv, z, n, rfl, _⟩ := h
    rfl
  · obtain ⟨x, mv, z, n, rfl, h1, q⟩ := h
    have h2 : -(2 ^ 64) < mvi mv ∧ mvi mv < 2 ^ 64 := by cases mv <;> decide
    refine ⟨_, (pss_cons (ps_expr (G.pe_callG (ok_need_note T) (hr.mono (by first | decide | omega)) rfl (gl_need_note T) (F_need_note T).kp (bi_need_note T) .nil pass0 (pa_cons (pv 1) pa_nil)))
    (pss_one (ps_ret (pe_op G.op_addG (pe_op G.op_mulG (pv 1) (pe_con (pv 0) rfl)) (pe_fld (pv 0) rfl))))), ?_⟩
    walk_at "start"
    walk_at "gob"
    exact q
theorem ok_Term_eq (T : Tx K mg) : G.FnG P w K mg base CX0 3 (a_Term_eq K) (G.fdOf K (a_Term_eq K)) ["self", "other"] (sp_Tmeq K) := by
  refine G.ok_of (F_Term_eq T) sc_Term_eq (fun vs H Q E h => ?_) (fun cdv A outer s H vs Q E hr h => ?_)
  · obtain ⟨x, mv, z, v, rfl, _⟩ := h
    rfl
  · obtain ⟨x, mv, z, v, rfl, h1, h⟩ := h
    rcases h with ⟨y, mv', z', rfl, h2, q⟩ | ⟨tv, ty, kt, q⟩
    · refine ⟨_, (pss_one (ps_ret (pe_and (pe_callB G.call_isiG (by rfl) (fr_isinstance T) boot_isinstance (pa_cons (pv 1) (pa_cons (G.pe_cl rfl (gl_Term T)) pa_nil))) (pe_and (pe_cmpR (G.op_eqG hr.units) (G.pe_propP (pv 0) (ok_Term_is_moving T) (hr.mono (by first | decide | omega)) (bi_Term_is_moving T) pass0 rfl) (G.pe_propP (pv 1) (ok_Term_is_moving T) (hr.mono (by first | decide | omega)) (bi_Term_is_moving T) pass0 rfl) (nomark _)) (pe_one (pe_cmpR (G.op_eqG hr.units) (pe_fld (pv 0) rfl) (pe_fld (pv 1) rfl) (nomark _))))))), ?_⟩
      walk_at "start"
      walk_at "gob"
      · rename_i hc
        rw [show decide (mv = mv' ∧ z = z') = decide (z = z') by simp [hc]] at q
        exact q
      · rename_i hc
        rw [show decide (mv = mv' ∧ z = z') = false by simp [hc]] at q
        simpa [hc] using q
    · refine ⟨_, (pss_one (ps_ret (pe_and (pe_callB G.call_isiG (by rfl) (fr_isinstance T) boot_isinstance (pa_cons (pv 1) (pa_cons (G.pe_cl rfl (gl_Term T)) pa_nil))) (pe_and (pe_cmpR (G.op_eqG hr.units) (G.pe_propP (pv 0) (ok_Term_is_moving T) (hr.mono (by first | decide | omega)) (bi_Term_is_moving T) pass0 rfl) (G.pe_propP (pv 1) (ok_Term_is_moving T) (hr.mono (by first | decide | omega)) (bi_Term_is_moving T) pass0 rfl) (nomark _)) (pe_one (pe_cmpR (G.op_eqG hr.units) (pe_fld (pv 0) rfl) (pe_fld (pv 1) rfl) (nomark _))))))), ?_⟩
      walk_at "start"
      walk_at "gob"
      exact q
end
end Lw

local macro_rules | `(tactic| walk_at "gx") => `(tactic| ((with_reducible refine Lw.pick_p (l := ?z2) (n := ?z0) (xs := ?z1) ?h1 ?h2 ?h3 ?h4 ?h5 ?h6 ?_); (case h1 => walk_at "hp"); (case h2 => omega); (case h3 => walk_at "hp"); (case h4 => first | assumption | (apply Ne.symm; assumption) | (refine Lw.PenL.neu (H := ?zH) (l := ?zl) (n := ?zn) ?e1 ?e2; (case e1 => assumption); (case e2 => walk_at "hp"))); (case h5 => first | (intro hz; cases hz) | simp); (case h6 => (simp only [List.length_cons, List.length_nil, List.length_append]; omega)); intro _ _ _ _ _))
local macro_rules | `(tactic| walk_at "hp") => `(tactic| (with_reducible refine G.Md.lst (p := ?zp) (H := ?zG) ?hm ?hh ?hn; (case hm => assumption); (case hn => refine Lw.PenL.neu (H := ?zH) (l := ?zl) (n := ?zn) ?e1 ?e2; (case e1 => assumption); (case e2 => walk_at "hp")); (case hh => walk_at "hp")))
local macro_rules | `(tactic| walk_at "g") => `(tactic| ((with_reducible refine G.add_ll (xs := ?z0) (ys := ?z1) ?h1 ?h2 ?l ?_); (case h1 => walk_at "hp"); (case h2 => walk_at "hp"); (case l => (simp only [List.length_cons, List.length_nil]; omega)); intro _ _ _ _ _))

namespace Lw
open PySem PySem.Spec PyProof.Rows L2
/-! ### what the law's own defs promise -/
section
variable {P : Program} {w : World} {K : PySem.W.Frag} {mg : Str → Option Value} {base : Heap} {H H' : Hp} {Q : VK} {E : XK} {p q l r x y u : Addr} {a b c d t m i j z z' k : Int} {v : V} {n n' : Nat} {xs : List V} {mv mv' : Bool}
/-- a fraction in lowest terms, between 0 and 1 -/
structure FrOk (t b : Int) : Prop where
  h0 : 0 < t
  h1 : t < b
  cop : Int.gcd t b = 1
  le : b ≤ 1000000000000000000000000000000000000000
theorem FrOk.bb (h : FrOk t b) : G.Bd 133 b := (G.Bd.of_le (G.Bd.lit 1000000000000000000000000000000000000000) (by have := h.h0; have := h.h1; have := h.le; omega)).mono (by decide +kernel)
theorem FrOk.bt (h : FrOk t b) : G.Bd 133 t := (G.Bd.of_le (G.Bd.lit 1000000000000000000000000000000000000000) (by have := h.h0; have := h.h1; have := h.le; omega)).mono (by decide +kernel)
def sp_fraction : Sp := fun vs H Q _ => ∃ p l n, vs = [.ref p] ∧ PenL H p l n ∧ n < 900000 ∧ ∀ x H' t b, G.Md p H H' → PenL H' p l (n + 1) → H' x = some (.tup [.int t, .int b]) → FrOk t b → Q (.ref x) H'
def sp_number : Sp := fun vs H Q _ => ∃ p l n, vs = [.ref p] ∧ PenL H p l n ∧ n < 900000 ∧ ∀ i H', G.Md p H H' → PenL H' p l (n + 3) → G.Bd 140 i → Q (.int i) H'
def sp_trm : Sp := fun vs H Q _ => ∃ p l n m, vs = [.ref p, .int m] ∧ PenL H p l n ∧ n < 900000 ∧ 0 < m ∧ m ≤ 12 ∧ ∀ x H' mv z, G.Md p H H' → PenL H' p l (n + 2) → H' x = some (.tup [.str (ltr mv), .int z]) → -m ≤ z → z ≤ m → Q (.ref x) H'
def sp_real (K : PySem.W.Frag) : Sp := fun vs H Q _ => ∃ q mv z, vs = [.ref q] ∧ H q = some (.tup [.str (ltr mv), .int z]) ∧ -12 ≤ z ∧ z ≤ 12 ∧ ∀ x H', H x = none → G.Kp H H' → IsTm K H' x mv z → Q (.ref x) H'
def sp_key : Sp := fun vs H Q _ => ∃ q mv z n t b, vs = [.ref q, .int n, .int t, .int b] ∧ H q = some (.tup [.str (ltr mv), .int z]) ∧ 0 < b ∧ G.Bd 200 n ∧ G.Bd 200 z ∧ G.Bd 200 t ∧ Q (.int ((n * mvi mv + z) * t % b)) H
def sp_told (K : PySem.W.Frag) : Sp := fun vs H Q _ => ∃ x q mv z, vs = [.ref x, .ref q] ∧ IsTm K H x mv z ∧ H q = some (.tup [.str (ltr mv), .int z]) ∧ G.Bd 200 z ∧ ∀ H', G.Kp H H' → Q (.bl true) H'
def sp_stands (K : PySem.W.Frag) : Sp := fun vs H Q _ => ∃ p l n x q mv z, vs = [.ref p, .ref x, .ref q] ∧ PenL H p l n ∧ n < 800000 ∧ IsTm K H x mv z ∧ H q = some (.tup [.str (ltr mv), .int z]) ∧ -12 ≤ z ∧ z ≤ 12 ∧ ∀ H', G.Md p H H' → PenL H' p l (n + 24) → Q (.bl true) H'
def sp_movedr (K : PySem.W.Frag) : Sp := fun vs H Q _ => ∃ p l n x q mv z, vs = [.ref p, .ref x, .ref q] ∧ PenL H p l n ∧ n < 900000 ∧ IsTm K H x mv z ∧ H q = some (.tup [.str (ltr mv), .int z]) ∧ -12 ≤ z ∧ z ≤ 12 ∧ ∀ H', G.Md p H H' → PenL H' p l (n + 1) → Q (.bl true) H'
def sp_law (K : PySem.W.Frag) : Sp := fun vs H Q _ => ∃ (x : Addr) (ns : List Int), vs = [.ref x] ∧ SqL K H x (ns.map V.int) ∧ ns.length ≤ 63 ∧ ∀ H', Q (.bl true) H'
/-! rows -/
theorem fraction_p (hp : PenL H p l n) (hn : n < 900000) (q : ∀ x H' t b, G.Md p H H' → PenL H' p l (n + 1) → H' x = some (.tup [.int t, .int b]) → 0 < t → t < b → Int.gcd t b = 1 → G.Bd 133 t → G.Bd 133 b → Q (.ref x) H') : sp_fraction [.ref p] H Q E := ⟨p, l, n, rfl, hp, hn, fun x H' t b h1 h2 h3 f => q x H' t b h1 h2 h3 f.h0 f.h1 f.cop f.bt f.bb⟩
theorem bd_mod {m : Nat} {x y : Int} (h : 0 < y) (k : G.Bd m y) : G.Bd m (x % y) := G.Bd.of_le k (by
  have := Int.emod_nonneg x (show y ≠ 0 by omega)
  have := Int.emod_lt_of_pos x h
  omega)
theorem bd_w {z : Int} (h1 : -1000 ≤ z) (h2 : z ≤ 1000) : G.Bd 200 z := (G.Bd.of_le (G.Bd.lit 1000) (by omega)).mono (by decide +kernel)
theorem number_p (hp : PenL H p l n) (hn : n < 900000) (q : ∀ i H', G.Md p H H' → PenL H' p l (n + 3) → G.Bd 140 i → Q (.int i) H') : sp_number [.ref p] H Q E := ⟨p, l, n, rfl, hp, hn, q⟩
theorem trm_p (hp : PenL H p l n) (hn : n < 900000) (h1 : 0 < m) (h2 : m ≤ 12) (q : ∀ x H' mv z, G.Md p H H' → PenL H' p l (n + 2) → H' x = some (.tup [.str (ltr mv), .int z]) → -m ≤ z → z ≤ m → Q (.ref x) H') : sp_trm [.ref p, .int m] H Q E := ⟨p, l, n, m, rfl, hp, hn, h1, h2, q⟩
theorem real_t (h : H u = some (.tup [.str (ltr mv), .int z])) (h1 : -12 ≤ z) (h2 : z ≤ 12) (q : ∀ x H', H x = none → G.Kp H H' → IsTm K H' x mv z → Q (.ref x) H') : sp_real K [.ref u] H Q E := ⟨u, mv, z, rfl, h, h1, h2, q⟩
theorem key_t (h : H u = some (.tup [.str (ltr mv), .int z])) (h0 : 0 < b) (h1 : G.Bd 200 i) (h2 : G.Bd 200 z) (h3 : G.Bd 200 t) (q : Q (.int ((i * mvi mv + z) * t % b)) H) : sp_key [.ref u, .int i, .int t, .int b] H Q E := ⟨u, mv, z, i, t, b, rfl, h, h0, h1, h2, h3, q⟩
theorem told_t (h : IsTm K H x mv z) (e : z = z') (h1 : H u = some (.tup [.str (ltr mv), .int z'])) (h2 : G.Bd 200 z') (q : ∀ H', G.Kp H H' → Q (.bl true) H') : sp_told K [.ref x, .ref u] H Q E := by
  subst e
  exact ⟨x, u, mv, z, rfl, h, h1, h2, q⟩
theorem stands_t (hp : PenL H p l n) (hn : n < 800000) (h : IsTm K H x mv z) (h1 : H u = some (.tup [.str (ltr mv), .int z])) (h2 : -12 ≤ z) (h3 : z ≤ 12) (q : ∀ H', G.Md p H H' → PenL H' p l (n + 24) → Q (.bl true) H') : sp_stands K [.ref p, .ref x, .ref u] H Q E := ⟨p, l, n, x, u, mv, z, rfl, hp, hn, h, h1, h2, h3, q⟩
theorem movedr_t (hp : PenL H p l n) (hn : n < 900000) (h : IsTm K H x mv z) (h1 : H u = some (.tup [.str (ltr mv), .int z])) (h2 : -12 ≤ z) (h3 : z ≤ 12) (q : ∀ H', G.Md p H H' → PenL H' p l (n + 1) → Q (.bl true) H') : sp_movedr K [.ref p, .ref x, .ref u] H Q E := ⟨p, l, n, x, u, mv, z, rfl, hp, hn, h, h1, h2, h3, q⟩
/-! the letter of a term -/
theorem eq_ltr (q : Q (.bl mv) H) : G.rEqG K (.str (ltr mv)) (.str "n") H Q := G.eq_ss (by rw [show decide (ltr mv = "n") = mv by cases mv <;> decide +kernel]; exact q)
theorem int_mv (q : Q (.int (mvi mv)) H) : G.rIntG [.bl mv] H Q := G.int_b q
theorem ltr_ok : ∀ mv : Bool, (PyData.str (ltr mv)).canLay0 = true
  | true => by decide +kernel
  | false => by decide +kernel
theorem ltr_eq : ∀ mv mv' : Bool, decide (ltr mv = ltr mv') = decide (mv = mv') := by
  intro mv mv'
  cases mv <;> cases mv' <;> decide +kernel
theorem ltr_and : decide (ltr mv = ltr mv' ∧ z = z') = decide (mv = mv' ∧ z = z') := by
  rw [Bool.decide_and, Bool.decide_and, ltr_eq]
theorem eq_trm (h1 : SqT K H x [.str (ltr mv), .int z]) (h2 : SqT K H y [.str (ltr mv'), .int z']) (q : Q (.bl (decide (mv = mv' ∧ z = z'))) H) : G.rEqG K (.ref x) (.ref y) H Q := G.eq_tsi (ltr_ok _) (ltr_ok _) h1 h2 (by rw [ltr_and]; exact q)
theorem ne_trm (h1 : SqT K H x [.str (ltr mv), .int z]) (h2 : SqT K H y [.str (ltr mv'), .int z']) (q : Q (.bl (!decide (mv = mv' ∧ z = z'))) H) : G.rNeG K (.ref x) (.ref y) H Q := G.ne_tsi (ltr_ok _) (ltr_ok _) h1 h2 (by rw [ltr_and]; exact q)
/-! the same, asked whether it is otherwise -/
theorem ne_sh (e : i = j) (q : Q (.bl false) H) : G.rNeG K (.str (PyData.shown (.int i))) (.str (PyData.shown (.int j))) H Q := G.ne_ss (by
  subst e
  simpa using q)
theorem ne_shl {f g : Bool} (q : Q (.bl false) H) : G.rNeG K (.str (PyData.shown (.list [.int i, .bool f]))) (.str (PyData.shown (.list [.int i, .bool f]))) H Q := G.ne_ss (by simpa using q)
theorem ne_mmS (T : Tx K mg) (h : IsTm K H x mv z) (k : IsTm K H y mv z') (e : z = z') (q : Q (.bl false) H) : G.rNeP K (a_Term_eq K) (sp_Tmeq K) E (.ref x) (.ref y) H Q := ne_mm T h k (by simpa [e] using q)
theorem ne_LL (T : Tx K mg) {t' : Int} {r' s' : Int} (h : IsR K H u i j) (k : IsR K H x r' s') (l1 : Low t b i j) (l2 : Low t' b r' s') (hb : b ≠ 0) (e : t = t') (q : ∀ H', G.Kp H H' → Q (.bl false) H') : G.rNeO K (He.ga K "Ratio") (sp_Req K) E (.ref u) (.ref x) H Q := by
  subst e
  obtain ⟨rfl, rfl⟩ := l1.uniq hb l2
  exact ne_RR T h k fun H' z => by simpa using q H' z
theorem mirror_eq (m : Int) : ((0 - i) * m + -z) * (b - t) % b = (i * m + z) * t % b := by
  have e : ((0 - i) * m + -z) * (b - t) = (i * m + z) * t + b * (-(i * m + z)) := by
    have h1 : (0 - i) * m + -z = -(i * m + z) := by rw [Int.zero_sub, Int.neg_mul, Int.neg_add]
    rw [h1, Int.mul_sub, Int.neg_mul, Int.neg_mul, Int.mul_neg, Int.mul_comm b]
    omega
  rw [e, Int.add_mul_emod_self_left]
theorem shift_eq (h : mv = true) : ((i + b) * mvi mv + z) * t % b = (i * mvi mv + z) * t % b := by
  subst h
  have e : ((i + b) * mvi true + z) * t = (i * mvi true + z) * t + b * t := by
    show ((i + b) * 1 + z) * t = (i * 1 + z) * t + b * t
    rw [← Int.add_mul]
    congr 1
    omega
  rw [e, Int.add_mul_emod_self_left]
theorem bd_12 (h1 : -12 ≤ z) (h2 : z ≤ 12) : G.Bd 10 z := (G.Bd.of_le (G.Bd.lit 12) (by omega)).mono (by decide +kernel)
end
end Lw

local macro_rules | `(tactic| walk_at "gx") => `(tactic| first
  | with_reducible refine Lw.eq_ltr ?_
  | with_reducible refine Lw.int_mv ?_
  | ((with_reducible refine Lw.eq_trm (mv := ?z0) (z := ?z1) (mv' := ?z2) (z' := ?z3) ?h1 ?h2 ?_); (case h1 => walk_at "hp"); (case h2 => walk_at "hp"))
  | ((with_reducible refine Lw.ne_trm (mv := ?z0) (z := ?z1) (mv' := ?z2) (z' := ?z3) ?h1 ?h2 ?_); (case h1 => walk_at "hp"); (case h2 => walk_at "hp"))
  | ((with_reducible refine Lw.ne_sh ?h1 ?_); (case h1 => first | rfl | exact Int.add_comm _ _ | omega))
  | with_reducible refine Lw.ne_shl ?_
  | ((with_reducible refine Lw.ne_mmS (mv := ?z0) (z := ?z1) (z' := ?z2) (by assumption) ?h1 ?h2 ?h3 ?_); (case h1 => walk_at "hp"); (case h2 => walk_at "hp"); (case h3 => first | rfl | omega))
  | ((with_reducible refine Lw.fraction_p (l := ?z0) (n := ?z1) ?h1 ?h2 ?_); (case h1 => walk_at "hp"); (case h2 => omega); intro _ _ _ _ _ _ _ _ _ _ _ _)
  | ((with_reducible refine Lw.number_p (l := ?z0) (n := ?z1) ?h1 ?h2 ?_); (case h1 => walk_at "hp"); (case h2 => omega); intro _ _ _ _ _)
  | ((with_reducible refine Lw.trm_p (l := ?z0) (n := ?z1) ?h1 ?h2 ?h3 ?h4 ?_); (case h1 => walk_at "hp"); (case h2 => omega); (case h3 => omega); (case h4 => omega); intro _ _ _ _ _ _ _ _ _)
  | ((with_reducible refine Lw.real_t (mv := ?z0) (z := ?z1) ?h1 ?h2 ?h3 ?_); (case h1 => walk_at "hp"); (case h2 => omega); (case h3 => omega); intro _ _ _ _ _)
  | ((with_reducible refine Lw.key_t (mv := ?z0) (z := ?z1) ?h1 ?h2 ?h3 ?h4 ?h5 ?_); (case h1 => walk_at "hp"); (case h2 => omega); (case h3 => walk_at "bdw"); (case h4 => walk_at "bdw"); (case h5 => walk_at "bdw"))
  | ((with_reducible refine Lw.told_t (mv := ?z0) (z := ?z1) (z' := ?z2) ?h1 ?h2 ?h3 ?h4 ?_); (case h1 => walk_at "hp"); (case h3 => walk_at "hp"); (case h2 => first | rfl | omega); (case h4 => first | exact Lw.bd_w (by omega) (by omega) | walk_at "bdw"); intro _ _)
  | ((with_reducible refine Lw.stands_t (l := ?z0) (n := ?z1) (mv := ?z2) (z := ?z3) ?h1 ?h2 ?h3 ?h4 ?h5 ?h6 ?_); (case h1 => walk_at "hp"); (case h2 => omega); (case h3 => walk_at "hp"); (case h4 => walk_at "hp"); (case h5 => omega); (case h6 => omega); intro _ _ _)
  | ((with_reducible refine Lw.movedr_t (l := ?z0) (n := ?z1) (mv := ?z2) (z := ?z3) ?h1 ?h2 ?h3 ?h4 ?h5 ?h6 ?_); (case h1 => walk_at "hp"); (case h2 => omega); (case h3 => walk_at "hp"); (case h4 => walk_at "hp"); (case h5 => omega); (case h6 => omega); intro _ _ _))
local macro_rules | `(tactic| walk_at "gx") => `(tactic| ((with_reducible refine Lw.ne_LL (t := ?z0) (b := ?z1) (i := ?z2) (j := ?z3) (t' := ?z4) (r' := ?z5) (s' := ?z6) (by assumption) ?h1 ?h2 ?h3 ?h4 ?h5 ?h6 ?_); (case h1 => walk_at "hp"); (case h2 => walk_at "hp"); (case h3 => assumption); (case h4 => assumption); (case h5 => omega); (case h6 => first | rfl | exact Lw.mirror_eq _ | exact Lw.shift_eq (by assumption)); intro _ _))
local macro_rules | `(tactic| walk_at "bd1") => `(tactic| ((with_reducible apply Lw.bd_mod); omega; walk_at "bd1"))
local macro_rules | `(tactic| walk_at "gx") => `(tactic| first
  | with_reducible refine G.str_i (m := 200) (Lw.bd_w (by omega) (by omega)) (by decide) ?_
  | with_reducible refine G.st_lcF ?_)

namespace Lw
open PySem PySem.Spec PyProof.Rows L2
section
variable {P : Program} {w : World} {K : PySem.W.Frag} {mg : Str → Option Value} {base : Heap} {H H' : Hp} {Q : VK} {E : XK} {p q l r x y u : Addr} {a b c d t m i j z z' k : Int} {v : V} {n n' : Nat} {xs : List V} {mv mv' : Bool}
theorem ok_law_fraction (T : Tx K mg) : G.FnG P w K mg base CX0 4 (a_law_fraction K) (G.fdOf K (a_law_fraction K)) ["_law_pen_here"] sp_fraction := by
  refine G.ok_of (F_law_fraction T) sc_law_fraction (fun vs H Q E h => ?_) (fun cdv A outer s H vs Q E hr h => ?_)
  · obtain ⟨p, l, n, rfl, _⟩ := h
    rfl
  · obtain ⟨p, l, n, rfl, hp, hn, q⟩ := h
    obtain ⟨ys, hys⟩ := hp.is
    refine ⟨_, (pss_cons (ps_set (i := 1) sc_law_fraction.nd rfl (Or.inl rfl) (pe_lst (pa_cons (pe_tup (pa_cons pe_int (pa_cons pe_int pa_nil))) (pa_cons (pe_tup (pa_cons pe_int (pa_cons pe_int pa_nil))) (pa_cons (pe_tup (pa_cons pe_int (pa_cons pe_int pa_nil))) (pa_cons (pe_tup (pa_cons pe_int (pa_cons pe_int pa_nil))) (pa_cons (pe_tup (pa_cons pe_int (pa_cons pe_int pa_nil))) (pa_cons (pe_tup (pa_cons pe_int (pa_cons pe_int pa_nil))) (pa_cons (pe_tup (pa_cons pe_int (pa_cons pe_int pa_nil))) (pa_cons (pe_tup (pa_cons pe_int (pa_cons pe_int pa_nil))) (pa_cons (pe_tup (pa_cons pe_int (pa_cons pe_int pa_nil))) (pa_cons (pe_tup (pa_cons pe_int (pa_cons pe_int pa_nil))) pa_nil))))))))))))
    (pss_cons (ps_set (i := 2) sc_law_fraction.nd rfl (Or.inl rfl) (pe_lst (pa_cons (pe_tup (pa_cons (pe_op G.op_powG pe_int pe_int) (pa_cons (pe_op G.op_addG (pe_op G.op_mulG pe_int (pe_op G.op_powG pe_int pe_int)) pe_int) pa_nil))) (pa_cons (pe_tup (pa_cons (pe_op G.op_subG (pe_op G.op_powG pe_int pe_int) pe_int) (pa_cons (pe_op G.op_powG pe_int pe_int) pa_nil))) (pa_cons (pe_tup (pa_cons pe_int (pa_cons (pe_op G.op_subG (pe_op G.op_powG pe_int pe_int) pe_int) pa_nil))) (pa_cons (pe_tup (pa_cons pe_int (pa_cons (pe_op G.op_powG pe_int pe_int) pa_nil))) pa_nil))))))
    (pss_one (ps_ret (G.pe_callG (ok_law_pick T) (hr.mono (by first | decide | omega)) rfl (gl_law_pick T) (F_law_pick T).kp (bi_law_pick T) .nil pass0 (pa_cons (pv 0) (pa_cons (pe_op G.op_addG (pv 1) (pv 2)) pa_nil))))))), ?_⟩
    walk_at "start"
    walk_at "go"
    rename_i v H1 hv m1 p1
    simp only [List.cons_append, List.nil_append, List.mem_cons, List.not_mem_nil, or_false] at hv
    rcases hv with rfl | rfl | rfl | rfl | rfl | rfl | rfl | rfl | rfl | rfl | rfl | rfl | rfl | rfl
    all_goals exact q _ _ _ _ (by walk_at "mdt") p1 (by walk_at "hp") ⟨by decide +kernel, by decide +kernel, by decide +kernel, by decide +kernel⟩
end
end Lw

namespace Lw
open PySem PySem.Spec PyProof.Rows L2
section
variable {P : Program} {w : World} {K : PySem.W.Frag} {mg : Str → Option Value} {base : Heap} {H H' : Hp} {Q : VK} {E : XK} {p q l r x y u : Addr} {a b c d t m i j z z' k : Int} {v : V} {n n' : Nat} {xs : List V} {mv mv' : Bool}
theorem bd_mid {i : Int} (h0 : -1000 ≤ i) (h1 : i ≤ 100000000000000000000) : G.Bd 140 i := (G.Bd.of_le (G.Bd.lit 100000000000000000000) (by omega)).mono (by decide +kernel)
theorem ok_law_number (T : Tx K mg) : G.FnG P w K mg base CX0 4 (a_law_number K) (G.fdOf K (a_law_number K)) ["_law_pen_here"] sp_number := by
  refine G.ok_of (F_law_number T) sc_law_number (fun vs H Q E h => ?_) (fun cdv A outer s H vs Q E hr h => ?_)
  · obtain ⟨p, l, n, rfl, _⟩ := h
    rfl
  · obtain ⟨p, l, n, rfl, hp, hn, q⟩ := h
    refine ⟨_, (pss_cons (ps_set (i := 1) sc_law_number.nd rfl (Or.inl rfl) (pe_lst (pa_cons pe_int (pa_cons pe_int (pa_cons (pe_un G.un_negG pe_int) (pa_cons pe_int (pa_cons (pe_un G.un_negG pe_int) (pa_cons (pe_op G.op_subG (G.pe_callG (ok_law_draw T) (hr.mono (by first | decide | omega)) rfl (gl_law_draw T) (F_law_draw T).kp (bi_law_draw T) .nil pass0 (pa_cons (pv 0) (pa_cons pe_int pa_nil))) pe_int) pa_nil))))))))
    (pss_one (ps_ret (G.pe_callG (ok_law_pick T) (hr.mono (by first | decide | omega)) rfl (gl_law_pick T) (F_law_pick T).kp (bi_law_pick T) .nil pass0 (pa_cons (pv 0) (pa_cons (pe_op G.op_addG (pv 1) (pe_lst (pa_cons (pe_op G.op_powG pe_int pe_int) (pa_cons (pe_op G.op_subG pe_int (pe_op G.op_powG pe_int pe_int)) (pa_cons (G.pe_callG (ok_law_draw T) (hr.mono (by first | decide | omega)) rfl (gl_law_draw T) (F_law_draw T).kp (bi_law_draw T) .nil pass0 (pa_cons (pv 0) (pa_cons (pe_op G.op_powG pe_int pe_int) pa_nil))) pa_nil))))) pa_nil)))))), ?_⟩
    walk_at "start"
    walk_at "go"
    rename_i v H1 hv m1 p1
    have m0 : G.Md p H H1 := by walk_at "mdt"
    simp only [List.cons_append, List.nil_append, List.mem_cons, List.not_mem_nil, or_false] at hv
    rcases hv with rfl | rfl | rfl | rfl | rfl | rfl | rfl | rfl | rfl
    all_goals first
      | exact q _ _ m0 p1 (by show Int.natAbs _ < 2 ^ 140; decide +kernel)
      | exact q _ _ m0 p1 (bd_mid (by omega) (by omega))
end
end Lw

namespace Lw
open PySem PySem.Spec PyProof.Rows L2
section
variable {P : Program} {w : World} {K : PySem.W.Frag} {mg : Str → Option Value} {base : Heap} {H H' : Hp} {Q : VK} {E : XK} {p q l r x y u : Addr} {a b c d t m i j z z' k : Int} {v : V} {n n' : Nat} {xs : List V} {mv mv' : Bool}
theorem ok_law_term (T : Tx K mg) : G.FnG P w K mg base CX0 4 (a_law_term K) (G.fdOf K (a_law_term K)) ["_law_pen_here", "_law_far"] sp_trm := by
  refine G.ok_of (F_law_term T) sc_law_term (fun vs H Q E h => ?_) (fun cdv A outer s H vs Q E hr h => ?_)
  · obtain ⟨p, l, n, m, rfl, _⟩ := h
    rfl
  · obtain ⟨p, l, n, m, rfl, hp, hn, m0, m1, q⟩ := h
    obtain ⟨ys, hys⟩ := hp.is
    have bm : G.Bd 10 m := bd_12 (by omega) (by omega)
    refine ⟨_, (pss_one (ps_ret (pe_tup (pa_cons (G.pe_callG (ok_law_pick T) (hr.mono (by first | decide | omega)) rfl (gl_law_pick T) (F_law_pick T).kp (bi_law_pick T) .nil pass0 (pa_cons (pv 0) (pa_cons (pe_lst (pa_cons pe_str (pa_cons pe_str pa_nil))) pa_nil))) (pa_cons (pe_op G.op_subG (G.pe_callG (ok_law_draw T) (hr.mono (by first | decide | omega)) rfl (gl_law_draw T) (F_law_draw T).kp (bi_law_draw T) .nil pass0 (pa_cons (pv 0) (pa_cons (pe_op G.op_addG (pe_op G.op_mulG pe_int (pv 1)) pe_int) pa_nil))) (pv 1)) pa_nil))))), ?_⟩
    walk_at "start"
    walk_at "go"
    rename_i v H1 hv k1 p1 d H2 k2 p2 d0 d1 x H3 n3 k3 e3
    have mm : G.Md p H H3 := by walk_at "mdt"
    have p3 := p2.kp k3
    simp only [List.mem_cons, List.not_mem_nil, or_false] at hv
    rcases hv with rfl | rfl
    · exact q x H3 true (d - m) mm p3 e3 (by omega) (by omega)
    · exact q x H3 false (d - m) mm p3 e3 (by omega) (by omega)
end
end Lw

namespace Lw
open PySem PySem.Spec PyProof.Rows L2
section
variable {P : Program} {w : World} {K : PySem.W.Frag} {mg : Str → Option Value} {base : Heap} {H H' : Hp} {Q : VK} {E : XK} {p q l r x y u : Addr} {a b c d t m i j z z' k : Int} {v : V} {n n' : Nat} {xs : List V} {mv mv' : Bool}
theorem ok_law_real_term (T : Tx K mg) : G.FnG P w K mg base CX0 7 (a_law_real_term K) (G.fdOf K (a_law_real_term K)) ["_law_term_here"] (sp_real K) := by
  refine G.ok_of (F_law_real_term T) sc_law_real_term (fun vs H Q E h => ?_) (fun cdv A outer s H vs Q E hr h => ?_)
  · obtain ⟨u, mv, z, rfl, _⟩ := h
    rfl
  · obtain ⟨u, mv, z, rfl, hu, h1, h2, q⟩ := h
    refine ⟨_, (pss_one (ps_ret (pe_ifExp (pt_cmpR (G.op_eqG hr.units) (pe_ix ix_seq (pv 0) pe_int (fun _ _ => rfl)) pe_str (nomark _)) (G.pe_makeG (mk_Moving T) (ok_Term_init T) (hr.mono (by first | decide | omega)) rfl (gl_Moving T) (bi_Term_init T) .nil pass0 (pa_cons (pe_ix ix_seq (pv 0) pe_int (fun _ _ => rfl)) pa_nil)) (G.pe_makeG (mk_Note T) (ok_Term_init T) (hr.mono (by first | decide | omega)) rfl (gl_Note T) (bi_Term_init T) .nil pass0 (pa_cons (pe_ix ix_seq (pv 0) pe_int (fun _ _ => rfl)) pa_nil))))), ?_⟩
    walk_at "start"
    walk_at "gob"
    · rename_i hc x H1 n1 k1 e1
      subst hc
      exact q _ _ (by walk_at "fr") (by walk_at "kp") e1
    · rename_i hc x H1 n1 k1 e1
      subst hc
      exact q _ _ (by walk_at "fr") (by walk_at "kp") e1
end
end Lw

namespace Lw
open PySem PySem.Spec PyProof.Rows L2
section
variable {P : Program} {w : World} {K : PySem.W.Frag} {mg : Str → Option Value} {base : Heap} {H H' : Hp} {Q : VK} {E : XK} {p q l r x y u : Addr} {a b c d t m i j z z' k : Int} {v : V} {n n' : Nat} {xs : List V} {mv mv' : Bool}
theorem ok_law_key (T : Tx K mg) : G.FnG P w K mg base CX0 1 (a_law_key K) (G.fdOf K (a_law_key K)) ["_law_term_here", "_law_n", "_law_top", "_law_bottom"] sp_key := by
  refine G.ok_of (F_law_key T) sc_law_key (fun vs H Q E h => ?_) (fun cdv A outer s H vs Q E hr h => ?_)
  · obtain ⟨u, mv, z, n, t, b, rfl, _⟩ := h
    rfl
  · obtain ⟨u, mv, z, n, t, b, rfl, hu, h0, h1, h2, h3, q⟩ := h
    refine ⟨_, (pss_one (ps_ret (pe_op G.op_modG (pe_callTy G.call_intG (by rfl) (fr_int T) boot_int (pa_cons (pe_op G.op_mulG (pe_op G.op_addG (pe_ifExp (pt_cmpR (G.op_eqG hr.units) (pe_ix ix_seq (pv 0) pe_int (fun _ _ => rfl)) pe_str (nomark _)) (pv 1) pe_int) (pe_ix ix_seq (pv 0) pe_int (fun _ _ => rfl))) (pv 2)) pa_nil)) (pv 3)))), ?_⟩
    walk_at "start"
    walk_at "gob"
    · rename_i hc
      subst hc
      simpa [mvi] using q
    · rename_i hc
      subst hc
      simpa [mvi] using q
end
end Lw

namespace Lw
open PySem PySem.Spec PyProof.Rows L2
/-! ### k39: comparisons of positions -/
abbrev inZ (ns : List Int) : List V := ns.map V.int
/-- at, below, between -/
inductive Wd | at_ | below | between
deriving DecidableEq
/-- a term: moving or not, its number -/
abbrev Tm := Bool × Int
def wdS : Wd → Str
  | .at_ => "at"
  | .below => "below"
  | .between => "between"
def cmA (K : PySem.W.Frag) : Wd → Addr
  | .at_ => He.ga K "At"
  | .below => He.ga K "Below"
  | .between => He.ga K "Between"
theorem wdS_inj : ∀ w u : Wd, decide (wdS w = wdS u) = decide (w = u) := by
  intro w u
  cases w <;> cases u <;> decide +kernel
/-- the key of a term -/
def kyT (n t b : Int) (s : Tm) : Int := (n * mvi s.1 + s.2) * t % b
/-- what it says -/
def hold (w : Wd) (ts : List Tm) (n t b : Int) : Bool :=
  match w, ts with
  | .at_, [x, y] => decide (kyT n t b x = kyT n t b y)
  | .below, [x, y] => decide (kyT n t b x < kyT n t b y)
  | .between, [x, y, z] => decide (0 < (kyT n t b y - kyT n t b x) % b ∧ (kyT n t b y - kyT n t b x) % b < (kyT n t b z - kyT n t b x) % b)
  | _, _ => false
section
variable {P : Program} {w : World} {K : PySem.W.Frag} {mg : Str → Option Value} {base : Heap} {H H' : Hp} {Q : VK} {E : XK} {p x y a b c f C : Addr} {n t d i j : Int} {v : V} {s u z : Tm} {ts us : List Tm} {R : Prop} {m : Str} {k : Wd} {σ : L2.St}
/-- a class of comparisons -/
structure CmC (K : PySem.W.Frag) (C : Addr) (k : Wd) : Prop where
  cl : Cls K C
  is_ : G.IsiC K C
  nm : NoAttr K C "own_marks"
  ns : NoAttr K C "own_sizes"
  con : ∃ u, Con K C "WORD" (.str (wdS k)) u
  deep : ∃ p, PropOf K C "deep" p (a_Saying_deep K)
  keys : Meth K C "keys_of" (a_Comparing_keys_of K)
  parts : Meth K C "parts" (a_Comparing_parts K)
  call : G.OwnM K C "__call__" (a_Saying_call K)
  eq : G.OwnM K C "__eq__" (a_Saying_eq K)
  ne : G.NeM K C (a_Saying_eq K)
  kS : PySem.W.kitOne K (.ref C) (.ref (He.ga K "Saying")) = some true
  kC : PySem.W.kitOne K (.ref C) (.ref (He.ga K "Comparing")) = some true
  kP : PySem.W.kitOne K (.ref C) (.ref (He.ga K "Paired")) = some (decide (k ≠ .between))
  kL : PySem.W.kitOne K (.ref C) (.ref (He.ga K "Levelled")) = some false
  kJ : PySem.W.kitOne K (.ref C) (.ref (He.ga K "Joined")) = some false
  kA : PySem.W.kitOne K (.ref C) (.ref (He.ga K "At")) = some (decide (k = .at_))
  kB : PySem.W.kitOne K (.ref C) (.ref (He.ga K "Below")) = some (decide (k = .below))
  kW : PySem.W.kitOne K (.ref C) (.ref (He.ga K "Between")) = some (decide (k = .between))
  fA : PySem.W.notFirst K C (.ref (He.ga K "At")) = true
  fB : PySem.W.notFirst K C (.ref (He.ga K "Below")) = true
  fW : PySem.W.notFirst K C (.ref (He.ga K "Between")) = true
  fn : PySem.W.notFirst K C (.type "NoneType") = true
  ft : PySem.W.notFirst K C (.type "tuple") = true
  fs : PySem.W.notFirst K C (.type "str") = true
  fb : PySem.W.notFirst K C (.type "bool") = true
theorem cm_ (T : Tx K mg) : ∀ k, CmC K (cmA K k) k
  | .at_ => ⟨cl_At T, is_At T, na_At_own_marks T, na_At_own_sizes T, co_At T, pr_At_deep T, me_At_keys_of T, me_At_parts T, ow_At_call T, ow_At_eq T, ne_At T, ki_At_Saying T, ki_At_Comparing T, ki_At_Paired T, ki_At_Levelled T, ki_At_Joined T, ki_At_At T, ki_At_Below T, ki_At_Between T, nf_At_At T, nf_At_Below T, nf_At_Between T, nf_At_NoneType T, nf_At_tuple T, nf_At_str T, nf_At_bool T⟩
  | .below => ⟨cl_Below T, is_Below T, na_Below_own_marks T, na_Below_own_sizes T, co_Below T, pr_Below_deep T, me_Below_keys_of T, me_Below_parts T, ow_Below_call T, ow_Below_eq T, ne_Below T, ki_Below_Saying T, ki_Below_Comparing T, ki_Below_Paired T, ki_Below_Levelled T, ki_Below_Joined T, ki_Below_At T, ki_Below_Below T, ki_Below_Between T, nf_Below_At T, nf_Below_Below T, nf_Below_Between T, nf_Below_NoneType T, nf_Below_tuple T, nf_Below_str T, nf_Below_bool T⟩
  | .between => ⟨cl_Between T, is_Between T, na_Between_own_marks T, na_Between_own_sizes T, co_Between T, pr_Between_deep T, me_Between_keys_of T, me_Between_parts T, ow_Between_call T, ow_Between_eq T, ne_Between T, ki_Between_Saying T, ki_Between_Comparing T, ki_Between_Paired T, ki_Between_Levelled T, ki_Between_Joined T, ki_Between_At T, ki_Between_Below T, ki_Between_Between T, nf_Between_At T, nf_Between_Below T, nf_Between_Between T, nf_Between_NoneType T, nf_Between_tuple T, nf_Between_str T, nf_Between_bool T⟩
theorem CmC.nf (h : CmC K C k) : ∀ l, PySem.W.notFirst K C (.ref (cmA K l)) = true
  | .at_ => h.fA
  | .below => h.fB
  | .between => h.fW
/-- the object: its things are a, b (and c) -/
def ObC (K : PySem.W.Frag) (H : Hp) (x : Addr) (k : Wd) (fs : List (Str × V)) : Prop := ∃ dx m sz, H x = some (.ins (cmA K k) dx (("own_marks", .ref m) :: ("own_sizes", .ref sz) :: fs)) ∧ H sz = some (.tup [.int 1, .int 1])
abbrev f2 (a b : Addr) : List (Str × V) := [("one", .ref a), ("other", .ref b)]
abbrev f3 (a b c : Addr) : List (Str × V) := [("first", .ref a), ("inside", .ref b), ("last", .ref c)]
/-- the terms at some addresses -/
def TmL (K : PySem.W.Frag) (H : Hp) : List Addr → List Tm → Prop
  | [], [] => True
  | a :: r, s :: q => IsTm K H a s.1 s.2 ∧ TmL K H r q
  | _, _ => False
theorem TmL.kp (e : G.Kp H H') : ∀ {as : List Addr} {ts : List Tm}, TmL K H as ts → TmL K H' as ts
  | [], [], _ => trivial
  | _ :: _, _ :: _, ⟨h, r⟩ => ⟨h.kp e, r.kp e⟩
theorem TmL.md (e : G.Md p H H') : ∀ {as : List Addr} {ts : List Tm}, TmL K H as ts → TmL K H' as ts
  | [], [], _ => trivial
  | _ :: _, _ :: _, ⟨h, r⟩ => ⟨h.md e, r.md e⟩
/-- where the terms stand -/
def flds : Wd → List Addr → List (Str × V)
  | .between, [a, b, c] => f3 a b c
  | .between, _ => []
  | _, [a, b] => f2 a b
  | _, _ => []
def wide : Wd → Nat
  | .between => 3
  | _ => 2
/-- a comparison of terms -/
def IsC (K : PySem.W.Frag) (H : Hp) (x : Addr) (k : Wd) (ts : List Tm) : Prop := ∃ as, as.length = wide k ∧ ObC K H x k (flds k as) ∧ TmL K H as ts
theorem ObC.kp {fs : List (Str × V)} (e : G.Kp H H') (h : ObC K H x k fs) : ObC K H' x k fs := let ⟨dx, m, sz, h1, h2⟩ := h; ⟨dx, m, sz, e _ _ h1, e _ _ h2⟩
theorem ObC.md {fs : List (Str × V)} (e : G.Md p H H') (h : ObC K H x k fs) : ObC K H' x k fs := let ⟨dx, m, sz, h1, h2⟩ := h; ⟨dx, m, sz, e.ins h1, e.tup h2⟩
theorem IsC.kp (e : G.Kp H H') (h : IsC K H x k ts) : IsC K H' x k ts := let ⟨as, l, o, t⟩ := h; ⟨as, l, o.kp e, t.kp e⟩
theorem IsC.md (e : G.Md p H H') (h : IsC K H x k ts) : IsC K H' x k ts := let ⟨as, l, o, t⟩ := h; ⟨as, l, o.md e, t.md e⟩
theorem ObC.ty {fs : List (Str × V)} (T : Tx K mg) (h : ObC K H x k fs) : TyX K H (.ref x) (.ref (cmA K k)) := let ⟨_, _, _, e, _⟩ := h; .base (.ins e (cm_ T k).cl (cm_ T k).is_.ha (cm_ T k).is_.hn (cm_ T k).is_.ht (cm_ T k).is_.hm)
theorem lk_1 {fs : List (Str × V)} {u v : V} : List.lookup ("own_sizes" : Str) (("own_marks", u) :: ("own_sizes", v) :: fs) = some v := by
  have e : (("own_sizes" : Str) == "own_marks") = false := by decide +kernel
  simp [List.lookup, e]
theorem lk_a {u v : V} {x : Str} (h1 : (x == ("own_marks" : Str)) = false) (h2 : (x == ("own_sizes" : Str)) = false) {fs : List (Str × V)} : List.lookup x (("own_marks", u) :: ("own_sizes", v) :: fs) = List.lookup x fs := by
  rw [List.lookup, h1]
  show List.lookup x (("own_sizes", v) :: fs) = _
  rw [List.lookup, h2]
theorem fld_sz (T : Tx K mg) {fs : List (Str × V)} (h : ObC K H x k fs) (q : ∀ sz, H sz = some (.tup [.int 1, .int 1]) → Q (.ref sz) H) : G.FldK K "own_sizes" (.ref x) H Q := let ⟨_, _, _, e, e2⟩ := h; G.st_fldK e (cm_ T k).cl (cm_ T k).ns lk_1 (q _ e2)
/-- no class attribute of that name -/
theorem na_o (T : Tx K mg) : ∀ k, k ≠ .between → NoAttr K (cmA K k) "one"
  | .at_, _ => na_At_one T
  | .below, _ => na_Below_one T
  | .between, h => (h rfl).elim
theorem na_r (T : Tx K mg) : ∀ k, k ≠ .between → NoAttr K (cmA K k) "other"
  | .at_, _ => na_At_other T
  | .below, _ => na_Below_other T
  | .between, h => (h rfl).elim
theorem fld_o (T : Tx K mg) (nb : k ≠ .between) (h : ObC K H x k (f2 a b)) (q : Q (.ref a) H) : G.FldK K "one" (.ref x) H Q := let ⟨_, _, _, e, _⟩ := h; G.st_fldK e (cm_ T k).cl (na_o T k nb) ((lk_a (by decide +kernel) (by decide +kernel)).trans (by simp [List.lookup])) q
theorem fld_r (T : Tx K mg) (nb : k ≠ .between) (h : ObC K H x k (f2 a b)) (q : Q (.ref b) H) : G.FldK K "other" (.ref x) H Q := let ⟨_, _, _, e, _⟩ := h; G.st_fldK e (cm_ T k).cl (na_r T k nb) ((lk_a (by decide +kernel) (by decide +kernel)).trans (by
  have e : (("other" : Str) == "one") = false := by decide +kernel
  simp [List.lookup, e])) q
theorem fld_1 (T : Tx K mg) (h : ObC K H x .between (f3 a b c)) (q : Q (.ref a) H) : G.FldK K "first" (.ref x) H Q := let ⟨_, _, _, e, _⟩ := h; G.st_fldK e (cm_ T .between).cl (na_Between_first T) ((lk_a (by decide +kernel) (by decide +kernel)).trans (by simp [List.lookup])) q
theorem fld_2 (T : Tx K mg) (h : ObC K H x .between (f3 a b c)) (q : Q (.ref b) H) : G.FldK K "inside" (.ref x) H Q := let ⟨_, _, _, e, _⟩ := h; G.st_fldK e (cm_ T .between).cl (na_Between_inside T) ((lk_a (by decide +kernel) (by decide +kernel)).trans (by
  have e : (("inside" : Str) == "first") = false := by decide +kernel
  simp [List.lookup, e])) q
theorem fld_3 (T : Tx K mg) (h : ObC K H x .between (f3 a b c)) (q : Q (.ref c) H) : G.FldK K "last" (.ref x) H Q := let ⟨_, _, _, e, _⟩ := h; G.st_fldK e (cm_ T .between).cl (na_Between_last T) ((lk_a (by decide +kernel) (by decide +kernel)).trans (by
  have e : (("last" : Str) == "first") = false := by decide +kernel
  have e2 : (("last" : Str) == "inside") = false := by decide +kernel
  simp [List.lookup, e, e2])) q
theorem TmL.two {as : List Addr} (l : as.length = 2) (h : TmL K H as ts) : ∃ a b s u, as = [a, b] ∧ ts = [s, u] ∧ IsTm K H a s.1 s.2 ∧ IsTm K H b u.1 u.2 := by
  match as, ts, l, h with
  | [a, b], [s, u], _, h => exact ⟨a, b, s, u, rfl, rfl, h.1, h.2.1⟩
theorem TmL.three {as : List Addr} (l : as.length = 3) (h : TmL K H as ts) : ∃ a b c s u z, as = [a, b, c] ∧ ts = [s, u, z] ∧ IsTm K H a s.1 s.2 ∧ IsTm K H b u.1 u.2 ∧ IsTm K H c z.1 z.2 := by
  match as, ts, l, h with
  | [a, b, c], [s, u, z], _, h => exact ⟨a, b, c, s, u, z, rfl, rfl, h.1, h.2.1, h.2.2.1⟩
theorem ck_c (q : Q v H) : G.tCK K v (tC (.ref C)) C σ H Q := ⟨rfl, q⟩
/-! promises -/
def M24 (ns : List Int) : Prop := ns.length ≤ 20 ∧ ∀ i ∈ ns, -24 ≤ i ∧ i ≤ 24
def W24 (ns : List Int) : Prop := ns.length ≤ 30 ∧ ∀ i ∈ ns, -24 ≤ i ∧ i ≤ 24
def In12 (s : Tm) : Prop := -12 ≤ s.2 ∧ s.2 ≤ 12
def sp_need_term (K : PySem.W.Frag) : Sp := fun vs H Q _ => ∃ a z mv i, vs = [.ref a, .str z] ∧ IsTm K H a mv i ∧ Q .non H
def sp_mwith (K : PySem.W.Frag) : Sp := fun vs H Q _ => ∃ r ns, vs = [.ref r] ∧ H r = some (.lst (inZ ns)) ∧ M24 ns ∧ ∀ y H' ws, G.Kp H H' → H' y = some (.tup (inZ ws)) → W24 ws → ws ≠ [] → Q (.ref y) H'
def sp_mpair (K : PySem.W.Frag) : Sp := fun vs H Q _ => ∃ a b s u e, vs = [.ref a, .ref b, .bl e] ∧ IsTm K H a s.1 s.2 ∧ IsTm K H b u.1 u.2 ∧ In12 s ∧ In12 u ∧ ∀ r H' ns, G.Kp H H' → H' r = some (.lst (inZ ns)) → M24 ns → Q (.ref r) H'
def sp_mthree (K : PySem.W.Frag) : Sp := fun vs H Q _ => ∃ r a b c s u z, vs = [.ref r] ∧ H r = some (.lst [.ref a, .ref b, .ref c]) ∧ IsTm K H a s.1 s.2 ∧ IsTm K H b u.1 u.2 ∧ IsTm K H c z.1 z.2 ∧ In12 s ∧ In12 u ∧ In12 z ∧ ∀ r H' ns, G.Kp H H' → H' r = some (.lst (inZ ns)) → M24 ns → Q (.ref r) H'
def sp_Sinit (K : PySem.W.Frag) : Sp := fun vs H Q _ => ∃ x m k dx ws, vs = [.ref x, .ref m, .int 1, .int 1] ∧ H x = some (.ins (cmA K k) dx []) ∧ H m = some (.tup (inZ ws)) ∧ W24 ws ∧ ws ≠ [] ∧ ∀ H' sz, G.Mi x H H' → H' x = some (.ins (cmA K k) dx [("own_marks", .ref m), ("own_sizes", .ref sz)]) → H' sz = some (.tup [.int 1, .int 1]) → Q .non H'
/-- At(..), Below(..) -/
def sp_Ainit (K : PySem.W.Frag) (k : Wd) : Sp := fun vs H Q _ => ∃ x dx a b s u, vs = [.ref x, .ref a, .ref b] ∧ H x = some (.ins (cmA K k) dx []) ∧ IsTm K H a s.1 s.2 ∧ IsTm K H b u.1 u.2 ∧ In12 s ∧ In12 u ∧ ∀ H', G.Mi x H H' → ObC K H' x k (f2 a b) → Q .non H'
def sp_Winit (K : PySem.W.Frag) : Sp := fun vs H Q _ => ∃ x dx a b c s u z, vs = [.ref x, .ref a, .ref b, .ref c] ∧ H x = some (.ins (cmA K .between) dx []) ∧ IsTm K H a s.1 s.2 ∧ IsTm K H b u.1 u.2 ∧ IsTm K H c z.1 z.2 ∧ In12 s ∧ In12 u ∧ In12 z ∧ ∀ H', G.Mi x H H' → ObC K H' x .between (f3 a b c) → Q .non H'
def sp_deep (K : PySem.W.Frag) : Sp := fun vs H Q _ => ∃ x k fs, vs = [.ref x] ∧ ObC K H x k fs ∧ Q (.int 1) H
/-- the things compared -/
def sp_pargs (K : PySem.W.Frag) : Sp := fun vs H Q _ => ∃ x k a b, vs = [.ref x] ∧ k ≠ .between ∧ ObC K H x k (f2 a b) ∧ ∀ y H', H y = none → G.Kp H H' → H' y = some (.tup [.ref a, .ref b]) → Q (.ref y) H'
def sp_wargs (K : PySem.W.Frag) : Sp := fun vs H Q _ => ∃ x a b c, vs = [.ref x] ∧ ObC K H x .between (f3 a b c) ∧ ∀ y H', H y = none → G.Kp H H' → H' y = some (.tup [.ref a, .ref b, .ref c]) → Q (.ref y) H'
def sp_keys (K : PySem.W.Frag) : Sp := fun vs H Q _ => ∃ x k ts n f t b, vs = [.ref x, .int n, .ref f] ∧ IsC K H x k ts ∧ IsR K H f t b ∧ G.Bd 300 n ∧ (∀ s ∈ ts, In12 s) ∧ ∀ r H', H r = none → G.Kp H H' → H' r = some (.lst (inZ (ts.map (kyT n t b)))) → Q (.ref r) H'
def sp_holds (K : PySem.W.Frag) (k : Wd) : Sp := fun vs H Q _ => ∃ x ts n f t b, vs = [.ref x, .int n, .ref f] ∧ IsC K H x k ts ∧ IsR K H f t b ∧ G.Bd 300 n ∧ (∀ s ∈ ts, In12 s) ∧ ∀ H', G.Kp H H' → Q (.bl (hold k ts n t b)) H'
def sp_call (K : PySem.W.Frag) : Sp := fun vs H Q _ => ∃ x k ts n f t b, vs = [.ref x, .int n, .ref f] ∧ IsC K H x k ts ∧ IsR K H f t b ∧ 0 < t ∧ t < b ∧ G.Bd 300 n ∧ (∀ s ∈ ts, In12 s) ∧ ∀ H', G.Kp H H' → Q (.bl (hold k ts n t b)) H'
/-- what is no saying -/
def NoS (H : Hp) (v : V) : Prop := v = .non ∨ (∃ b, v = .bl b) ∨ (∃ s, v = .str s) ∨ ∃ p xs, v = .ref p ∧ H p = some (.tup xs)
def sp_Seq (K : PySem.W.Frag) : Sp := fun vs H Q _ => ∃ x k ts v, vs = [.ref x, v] ∧ IsC K H x k ts ∧ ((∃ y l us, v = .ref y ∧ IsC K H y l us ∧ ∀ H', G.Kp H H' → Q (.bl (decide (k = l ∧ ts = us))) H') ∨ (NoS H v ∧ Q (.bl false) H))
/-- the comparison alone -/
def sp_parts (K : PySem.W.Frag) : SpG := fun vs H Q _ => ∃ x, vs = [.ref x] ∧ Q [.ref x] H
end
end Lw

-- k02: keywords, lambdas
local macro_rules | `(tactic| walk_at "gx") => `(tactic| first
  | with_reducible refine Lw.st_smK ?_
  | with_reducible refine Lw.st_mkKW ?_
  | ((with_reducible refine Lw.st_mkKW' ?e ?_); (case e => rfl))
  | ((with_reducible refine Lw.mkKW_D (q := ?z0) ?hb ?e ?b1 ?b2 ?_); (case hb => first | assumption | omega); (case e => walk_at "dq"); (case b1 => first | assumption | walk_at "bdw"); (case b2 => first | assumption | walk_at "bdw"); intro _ _ _ _ _)
  | with_reducible refine Lw.st_TTh ?_
  | with_reducible refine Lw.st_EhD ?_
  | ((with_reducible refine Lw.st_EhR (v := ?z0) ?h ?_); (case h => walk_at "hp")))
local macro_rules | `(tactic| walk_at "g") => `(tactic| ((with_reducible refine Lw.append_lz (xs := ?z0) (zs := ?z1) ?h ?l ?e ?_); (case h => walk_at "hp"); (case l => (simp only [List.length_cons, List.length_nil]; omega)); (case e => (simp only [List.cons_append, List.nil_append]; rfl)); intro _ _ _))
-- as far as it goes, but no comparison of lists
local macro_rules | `(tactic| walk_at "gos") => `(tactic| repeat' ((fail_if_success (with_reducible show G.rOr (G.rNeG _) _ (.ref _) (.ref _) _ _)); (fail_if_success (with_reducible show G.rNeG _ (.ref _) (.ref _) _ _)); (fail_if_success (with_reducible show G.LcB (!_) _ _ _ _ _)); (fail_if_success (with_reducible show (if (!decide (_ = _)) = true then _ else _))); (fail_if_success (with_reducible show G.rEqG _ (.ref _) (.ref _) _ _)); (fail_if_success (with_reducible show G.rOr (G.rEqG _) (G.rOr _ _) (.ref _) (.ref _) _ _)); first | walk_at "g" | walk_at "gl"))

-- k39: comparisons
local macro_rules | `(tactic| walk_at "hp") => `(tactic| first
  | (refine Lw.IsTm.kp (by assumption) ?_; walk_at "hp")
  | (refine Lw.IsTm.md (by assumption) ?_; walk_at "hp")
  | (refine Lw.ObC.kp (by assumption) ?_; walk_at "hp")
  | (refine Lw.IsC.kp (by assumption) ?_; walk_at "hp")
  | (refine Lw.IsC.md (by assumption) ?_; walk_at "hp"))
local macro_rules | `(tactic| walk_at "gx") => `(tactic| first
  | with_reducible refine G.st_methP ?_
  | with_reducible refine G.st_propP ?_
  | with_reducible refine G.st_con ?_
  | ((with_reducible refine Lw.fld_o (k := ?z0) (a := ?z1) (b := ?z2) (by assumption) ?n ?h ?_); (case h => walk_at "hp"); (case n => first | assumption | (intro hz; cases hz)))
  | ((with_reducible refine Lw.fld_r (k := ?z0) (a := ?z1) (b := ?z2) (by assumption) ?n ?h ?_); (case h => walk_at "hp"); (case n => first | assumption | (intro hz; cases hz)))
  | ((with_reducible refine Lw.fld_1 (a := ?z0) (b := ?z1) (c := ?z2) (by assumption) ?h ?_); (case h => walk_at "hp"))
  | ((with_reducible refine Lw.fld_2 (a := ?z0) (b := ?z1) (c := ?z2) (by assumption) ?h ?_); (case h => walk_at "hp"))
  | ((with_reducible refine Lw.fld_3 (a := ?z0) (b := ?z1) (c := ?z2) (by assumption) ?h ?_); (case h => walk_at "hp"))
  | with_reducible refine Lw.ck_c ?_
  | ((with_reducible refine G.tup_l (xs := ?z0) ?h ?_); (case h => walk_at "hp"); intro _ _ _ _ _))

-- the plain forms first
local macro_rules | `(tactic| walk_at "g") => `(tactic| first
  | ((with_reducible refine G.st_var (v := ?z0) ?h ?_); (case h => rfl))
  | with_reducible refine G.st_c ?_
  | with_reducible refine G.st_op ?_
  | with_reducible refine G.st_seq ?_
  | with_reducible refine G.st_asg ?_
  | with_reducible refine G.st_test ?_
  | with_reducible refine G.st_B ?_
  | with_reducible refine G.st_cons ?_
  | with_reducible refine G.st_nil ?_
  | with_reducible refine G.st_call ?_
  | with_reducible refine G.st_exbl ?_
  | with_reducible refine G.st_exblP ?_
  | with_reducible refine G.st_iteT ?_
  | with_reducible refine G.st_iteF ?_
  | with_reducible refine G.st_ifS ?_
  | with_reducible refine G.st_ret ?_
  | with_reducible refine G.st_methP ?_
  | with_reducible refine G.st_fld ?_
  | with_reducible refine G.st_exint ?_
  | with_reducible refine G.st_exintP ?_
  | with_reducible refine G.st_tup ?_
  | with_reducible refine G.st_lst ?_
  | with_reducible refine G.st_mk ?_
  | with_reducible refine G.st_and ?_
  | with_reducible refine G.st_or ?_
  | with_reducible refine G.st_not ?_)
-- what is at hand first
local macro_rules | `(tactic| walk_at "hp") => `(tactic| assumption)
-- what a test says; nothing is unfolded
local macro_rules | `(tactic| walk_at "gif") => `(tactic| ((with_reducible refine G.st_ite ?_ ?_) <;> (intro hc; (try simp only [decide_eq_true_eq, decide_eq_false_iff_not, Bool.not_eq_true', Bool.not_eq_false', Bool.and_eq_true, Bool.or_eq_true, Bool.and_eq_false_iff, Bool.or_eq_false_iff, Bool.not_true, Bool.not_false, bne_iff_ne, beq_iff_eq, ne_eq, not_true_eq_false, not_false_eq_true, Bool.false_eq_true, Bool.true_eq_false, reduceCtorEq] at hc); (try (exfalso; with_reducible first | assumption | contradiction | omega)))))

namespace Lw
open PySem PySem.Spec PyProof.Rows L2
section
variable {K : PySem.W.Frag} {H : Hp} {Q : VK}
theorem eqvAll_ints : ∀ ns ms : List Int, PyData.eqvAll (ns.map PyData.int) (ms.map PyData.int) = decide (ns = ms)
  | [], [] => by simp [PyData.eqvAll]
  | [], _ :: _ => by simp [PyData.eqvAll]
  | _ :: _, [] => by simp [PyData.eqvAll]
  | n :: r, m :: t => by
    have ih := eqvAll_ints r t
    by_cases e : n = m <;> simp [PyData.eqvAll, PyData.eqv, ih, e]
theorem dpZ : ∀ ns : List Int, DpAll K H (inZ ns) (ns.map PyData.int)
  | [] => .nil
  | n :: r => .cons (.int n) (dpZ r)
theorem layZ (ns : List Int) : PyData.canLayAll0 (ns.map PyData.int) = true ∧ PyData.depthAll (ns.map PyData.int) = 0 := by
  induction ns with
  | nil => exact ⟨rfl, rfl⟩
  | cons n r ih => exact ⟨by simp [PyData.canLayAll0, PyData.canLay0, ih.1], by simp [PyData.depthAll, PyData.depth, ih.2]⟩
theorem shpL (ns : List Int) : SeqAt.shaped (.list (ns.map PyData.int)) = true := by
  have h := layZ ns
  simp [SeqAt.shaped, PyData.canLay0, PyData.depth, h.1, h.2]
theorem eqvL_ints (ns ms : List Int) : PyData.eqv (.list (ns.map PyData.int)) (.list (ms.map PyData.int)) = decide (ns = ms) := by
  rw [← eqvAll_ints]
  simp [PyData.eqv]
theorem eq_lists {p q : Addr} {ns ms : List Int} (h1 : H p = some (.lst (inZ ns))) (h2 : H q = some (.lst (inZ ms))) (z : Q (.bl (decide (ns = ms))) H) : G.rEqG K (.ref p) (.ref q) H Q :=
  G.eq_dd (.lst (.of h1) (dpZ ns)) (.lst (.of h2) (dpZ ms)) (shpL ns) (shpL ms) (by rw [eqvL_ints]; exact z)
theorem ne_lists {p q : Addr} {ns ms : List Int} (h1 : H p = some (.lst (inZ ns))) (h2 : H q = some (.lst (inZ ms))) (z : Q (.bl (!decide (ns = ms))) H) : G.rNeG K (.ref p) (.ref q) H Q :=
  G.ne_dd (.lst (.of h1) (dpZ ns)) (.lst (.of h2) (dpZ ms)) (shpL ns) (shpL ms) (by rw [eqvL_ints]; exact z)
end
section
variable {P : Program} {w : World} {K : PySem.W.Frag} {mg : Str → Option Value} {base : Heap}
theorem ifdT {p : Prop} [Decidable p] {A B : Prop} (h : p) (q : A) : if decide p = true then A else B := by rw [decide_eq_true h]; exact q
theorem ifdF {p : Prop} [Decidable p] {A B : Prop} (h : ¬ p) (q : B) : if decide p = true then A else B := by rw [decide_eq_false h, if_neg Bool.false_ne_true]; exact q
theorem nodup_len : ∀ {xs ys : List Int}, xs.Nodup → (∀ k ∈ xs, k ∈ ys) → xs.length ≤ ys.length
  | [], _, _, _ => Nat.zero_le _
  | x :: r, ys, h, g => by
    rw [List.nodup_cons] at h
    have mx := g x (List.mem_cons_self ..)
    have := nodup_len (xs := r) (ys := ys.erase x) h.2 fun k hk => (List.mem_erase_of_ne (fun e => h.1 (by rw [← e]; exact hk))).mpr (g k (List.mem_cons_of_mem _ hk))
    rw [List.length_erase_of_mem mx] at this
    have := List.length_pos_of_mem mx
    rw [List.length_cons]
    omega
theorem ok_need_term (T : Tx K mg) : G.FnG P w K mg base CX0 2 (a_need_term K) (G.fdOf K (a_need_term K)) ["value", "part"] (sp_need_term K) := by
  refine G.ok_of (F_need_term T) sc_need_term (fun vs H Q E h => ?_) (fun cdv A outer s H vs Q E hr h => ?_)
  · obtain ⟨a, z, mv, i, rfl, _⟩ := h
    rfl
  · obtain ⟨a, z, mv, i, rfl, h1, q⟩ := h
    refine ⟨_, (pss_one (ps_if (pt_not (pt_val (pe_callB G.call_isiG (by rfl) (fr_isinstance T) boot_isinstance (pa_cons (pv 0) (pa_cons (G.pe_cl rfl (gl_Term T)) pa_nil))))) (pss_one ps_never) pss_nil)), ?_⟩
    walk_at "start"
    walk_at "gob"
    exact q
theorem ok_marks_of_pair (T : Tx K mg) : G.FnG P w K mg base CX0 3 (a_marks_of_pair K) (G.fdOf K (a_marks_of_pair K)) ["one", "other", "has_ends"] (sp_mpair K) := by
  refine G.ok_of (F_marks_of_pair T) sc_marks_of_pair (fun vs H Q E h => ?_) (fun cdv A outer s H vs Q E hr h => ?_)
  · obtain ⟨a, b, s, u, e, rfl, _⟩ := h
    rfl
  · obtain ⟨a, b, ⟨mv, i⟩, ⟨mv', j⟩, e, rfl, h1, h2, b1, b2, q⟩ := h
    refine ⟨_, (pss_cons (ps_par (i := 3) (j := 4) (by rfl) sc_marks_of_pair.nd rfl rfl (by decide) rfl rfl (pa_cons (pe_fld (pv 0) rfl) (pa_cons (pe_fld (pv 1) rfl) pa_nil)) (by rfl))
    (pss_cons (ps_if (pt_cmpR (G.op_eqG hr.units) (G.pe_propP (pv 0) (ok_Term_is_moving T) (hr.mono (by first | decide | omega)) (bi_Term_is_moving T) pass0 rfl) (G.pe_propP (pv 1) (ok_Term_is_moving T) (hr.mono (by first | decide | omega)) (bi_Term_is_moving T) pass0 rfl) (nomark _)) (pss_one (ps_ret (pe_ifExp (pt_val (G.pe_propP (pv 0) (ok_Term_is_moving T) (hr.mono (by first | decide | omega)) (bi_Term_is_moving T) pass0 rfl)) (pe_lst (pa_cons (pe_un G.un_negG (pv 3)) (pa_cons (pe_un G.un_negG (pv 4)) pa_nil))) (pe_lst (pa_cons (pv 3) (pa_cons (pv 4) pa_nil)))))) pss_nil)
    (pss_cons (ps_asg (pe_ifExp (pt_val (G.pe_propP (pv 0) (ok_Term_is_moving T) (hr.mono (by first | decide | omega)) (bi_Term_is_moving T) pass0 rfl)) (pe_tup (pa_cons (pv 3) (pa_cons (pv 4) pa_nil))) (pe_tup (pa_cons (pv 4) (pa_cons (pv 3) pa_nil)))) (pg_tup (n := 2) (by rfl) (pgs_cons (pg_name (i := 5) sc_marks_of_pair.nd rfl (Or.inl rfl)) (pgs_cons (pg_name (i := 6) sc_marks_of_pair.nd rfl (Or.inl rfl)) pgs_nil))))
    (pss_one (ps_ret (pe_ifExp (pt_val (pv 2)) (pe_lst (pa_cons (pe_un G.un_negG (pv 5)) (pa_cons (pe_op G.op_subG (pv 6) (pv 5)) (pa_cons (pv 6) pa_nil)))) (pe_lst (pa_cons (pe_op G.op_subG (pv 6) (pv 5)) pa_nil)))))))), ?_⟩
    have h12 : -12 ≤ i ∧ i ≤ 12 ∧ -12 ≤ j ∧ j ≤ 12 := ⟨b1.1, b1.2, b2.1, b2.2⟩
    have fin : ∀ (r : Addr) (H' : Hp) (ns : List Int), G.Kp H H' → H' r = some (.lst (inZ ns)) → ns.length ≤ 3 → (∀ i ∈ ns, -24 ≤ i ∧ i ≤ 24) → Q (.ref r) H' := fun r H' ns k e l m => q r H' ns k e ⟨by omega, m⟩
    clear b1 b2 q
    walk_at "start"
    cases mv <;> cases mv' <;> cases e <;> (walk_at "gob"; (first | (refine fin _ _ _ (by walk_at "kp") (by assumption) (by simp) ?_) | (refine fin _ _ [_, _] (by walk_at "kp") (by assumption) (by simp) ?_) | (refine fin _ _ [_] (by walk_at "kp") (by assumption) (by simp) ?_) | (refine fin _ _ [_, _, _] (by walk_at "kp") (by assumption) (by simp) ?_)); (intro n hn; simp only [List.mem_cons, List.not_mem_nil, or_false] at hn; omega))
theorem ok_marks_with (T : Tx K mg) : G.FnG P w K mg base CX0 3 (a_marks_with K) (G.fdOf K (a_marks_with K)) ["numbers"] (sp_mwith K) := by
  refine G.ok_of (F_marks_with T) sc_marks_with (fun vs H Q E h => ?_) (fun cdv A outer s H vs Q E hr h => ?_)
  · obtain ⟨r, ns, rfl, _⟩ := h
    rfl
  · obtain ⟨r, ns, rfl, hr0, m24, q⟩ := h
    refine ⟨_, (pss_one (ps_ret (pe_callTy G.call_tupG (by rfl) (fr_tuple T) boot_tuple (pa_cons (pe_callB (G.cr_sortedSet rfl) (by rfl) (fr_sorted T) boot_sorted (pa_cons (pe_callTy (G.cr_setL rfl) (by rfl) (fr_set T) boot_set (pa_cons (pe_op G.op_addG (pe_lst (pa_cons pe_int pa_nil)) (pe_lc (own := [("number", 1)]) (by rfl) sc_marks_with.nd (pi_list (pv 0)) (blkOk_by (N := ["numbers", "number"]) (sc := defScope s_marks_with) (by decide +kernel)) (fun _ _ _ _ _ => (pg_name (i := 1) sc_marks_with.nd rfl (Or.inl rfl))) (fun _ _ _ _ _ => pts_nil) (fun _ _ _ _ _ => (pe_callTy G.call_intG (by rfl) (fr_int T) boot_int (pa_cons (pv 1) pa_nil))))) pa_nil)) pa_nil)) pa_nil)))), ?_⟩
    obtain ⟨l20, m24⟩ := m24
    walk_at "start"
    walk_at "gos"
    rename_i l0 H1 n1 k1 e1
    refine G.lc_map1 (σ0 := [some (.ref r), none]) (xs := inZ ns) (ys := inZ ns) (.inl ⟨rfl, k1 _ _ hr0⟩) rfl (fun x => rfl) rfl (by simp; omega) ?_ ?_
    · intro i v y H' R hv hy k1 hR
      obtain ⟨n, hn, rfl⟩ : ∃ n, ns[i]? = some n ∧ V.int n = v := by simpa using hv
      rw [hv] at hy
      cases hy
      walk_at "gos"
      exact hR _ G.Kp.refl
    intro D H4 nD eD k4
    walk_at "gos"
    refine G.add_ll (k4 _ _ e1) eD (by simp; omega) fun p5 H5 n5 k5 e5 => ?_
    rw [show [V.int 0] ++ inZ ns = inZ (0 :: ns) from rfl] at e5
    walk_at "gos"
    refine G.set_l (SqL.of e5) (by simp; omega) fun sa c2 H6 n6 k6 lc e6 => ?_
    walk_at "gos"
    refine G.sorted_s e6 (by simp at lc; omega) fun sl ws H7 n7 k7 asc mem e7 => ?_
    have mem' : ∀ k, k ∈ ws ↔ k = 0 ∨ k ∈ ns := fun k => by rw [mem, decide_eq_true_iff, List.mem_cons]
    walk_at "gos"
    rename_i z H8 n8 k8 e8
    refine q z H8 ws (k1.trans (k4.trans (k5.trans (k6.trans (k7.trans k8))))) e8 ⟨?_, fun i hi => ?_⟩ fun e => ?_
    · have := nodup_len (ys := 0 :: ns) (asc.imp fun h e => by omega) fun k hk => List.mem_cons.mpr ((mem' k).mp hk)
      rw [List.length_cons] at this
      omega
    · rcases (mem' i).mp hi with rfl | h
      · omega
      · exact m24 i h
    · have := (mem' 0).mpr (.inl rfl)
      rw [e] at this
      exact nomatch this
end
end Lw

namespace Lw
open PySem PySem.Spec PyProof.Rows L2
section
variable {P : Program} {w : World} {K : PySem.W.Frag} {mg : Str → Option Value} {base : Heap}
def subV : V → V → V
  | .int i, .int j => .int (i - j)
  | _, _ => .non
theorem flat_sub (ms ns : List Int) : ((inZ ms).flatMap fun x => (inZ ns).map (subV x)) = inZ (ms.flatMap fun i => ns.map fun j => i - j) := by
  induction ms with
  | nil => rfl
  | cons m r ih =>
    have h : ((inZ (m :: r)).flatMap fun x => (inZ ns).map (subV x)) = (inZ ns).map (subV (.int m)) ++ ((inZ r).flatMap fun x => (inZ ns).map (subV x)) := rfl
    rw [h, ih, List.flatMap_cons]
    simp only [inZ, List.map_append, List.map_map]
    rfl
theorem ok_marks_of_three (T : Tx K mg) : G.FnG P w K mg base CX0 3 (a_marks_of_three K) (G.fdOf K (a_marks_of_three K)) ["terms"] (sp_mthree K) := by
  refine G.ok_of (F_marks_of_three T) sc_marks_of_three (fun vs H Q E h => ?_) (fun cdv A outer s H vs Q E hr h => ?_)
  · obtain ⟨r, a, b, c, s, u, z, rfl, _⟩ := h
    rfl
  · obtain ⟨r, a, b, c, s, u, z, rfl, hr0, h1, h2, h3, b1, b2, b3, q⟩ := h
    refine ⟨_, (pss_cons (ps_set (i := 1) sc_marks_of_three.nd rfl (Or.inr rfl) (pe_lc (own := [("term", 2)]) (by rfl) sc_marks_of_three.nd (pi_list (pv 0)) (blkOk_by (N := ["terms", "moving", "term", "fixed", "number", "more"]) (sc := defScope s_marks_of_three) (by decide +kernel)) (fun _ _ _ _ _ => (pg_name (i := 2) sc_marks_of_three.nd rfl (Or.inl rfl))) (fun _ _ _ _ _ => (pts_one (pt_val (G.pe_propPK (K := K) rfl (pv 2) (ok_Term_is_moving T) (hr.mono (by first | decide | omega)) (bi_Term_is_moving T) pass0 rfl)))) (fun _ _ _ _ _ => (G.pe_fldK (K := K) rfl (pv 2) rfl))))
    (pss_cons (ps_setLc (i := 3) (own := [("term", 2)]) (by rfl) sc_marks_of_three.nd rfl rfl (sw_true rfl rfl rfl (by decide +kernel)) (pi_list (pv 0)) (blkOk_by (N := ["terms", "moving", "term", "fixed", "number", "more"]) (sc := defScope s_marks_of_three) (by decide +kernel)) (fun _ _ _ _ _ => (pg_name (i := 2) sc_marks_of_three.nd rfl (Or.inl rfl))) (fun _ _ _ _ _ => (pts_one (pt_not (pt_val (G.pe_propPK (K := K) rfl (pv 2) (ok_Term_is_moving T) (hr.mono (by first | decide | omega)) (bi_Term_is_moving T) pass0 rfl))))) (fun _ _ _ _ _ => (G.pe_fldK (K := K) rfl (pv 2) rfl)))
    (pss_cons (ps_if (PW.pt (pw_or (pt_cmpR (G.op_eqG hr.units) (pv 1) (pe_lst pa_nil) (nomark _)) (pw_or1 (pt_cmpR (G.op_eqG hr.units) (pv 3) (pe_lst pa_nil) (nomark _))))) (pss_one (ps_ret (pe_op G.op_addG (pv 1) (pv 3)))) pss_nil)
    (pss_one (ps_ret (pe_lc2 (own := [("number", 4), ("more", 5)]) (vs1 := [5]) (by rfl) sc_marks_of_three.nd (pi_list (pv 3)) (blkOk_by (N := ["terms", "moving", "term", "fixed", "number", "more"]) (sc := defScope s_marks_of_three) (by decide +kernel)) (by simp) (fun _ _ _ _ _ => (pg_name (i := 4) sc_marks_of_three.nd rfl (Or.inl rfl))) (fun _ _ _ _ _ => pts_nil) (fun _ _ _ _ _ => (G.pi_listK (K := K) rfl (pv 1))) (fun _ _ _ _ _ => (pg_name (i := 5) sc_marks_of_three.nd rfl (Or.inl rfl))) (fun _ _ _ _ _ => pts_nil) (fun _ _ _ _ _ => (pe_op G.op_subG (pv 4) (pv 5))))))))), ?_⟩
    have tm : ∀ (i : Nat) (x : V), [V.ref a, V.ref b, V.ref c][i]? = some x → ∃ p mv j, x = .ref p ∧ IsTm K H p mv j ∧ -12 ≤ j ∧ j ≤ 12 := fun i x hx => by
      match i, hx with
      | 0, hx => cases hx; exact ⟨a, _, _, rfl, h1, b1.1, b1.2⟩
      | 1, hx => cases hx; exact ⟨b, _, _, rfl, h2, b2.1, b2.2⟩
      | 2, hx => cases hx; exact ⟨c, _, _, rfl, h3, b3.1, b3.2⟩
    walk_at "start"
    walk_at "gos"
    refine G.lc_seqG (σ0 := [some (.ref r), none, none, none, none, none]) (xs := [.ref a, .ref b, .ref c]) (.inl ⟨rfl, hr0⟩) (fun D i H' => H D = none ∧ G.Kp H H' ∧ ∃ ns : List Int, H' D = some (.lst (inZ ns)) ∧ ns.length ≤ i ∧ ∀ n ∈ ns, -12 ≤ n ∧ n ≤ 12) rfl (fun D H2 hn k eD => ⟨hn, k, [], eD, Nat.le_refl _, fun _ h => nomatch h⟩) (fun D i H' h => h.2.1) ?_ ?_
    · rintro D i x H' hx ⟨hn, k, ns, eD, l, m⟩
      obtain ⟨p, mv, j, rfl, it0, lj⟩ := tm i x hx
      have it := it0.kp k
      cases mv
      · walk_at "gos"
        first | exact G.st_lcF ⟨hn, k, ns, eD, by omega, m⟩ | exact ⟨hn, k, ns, eD, by omega, m⟩
      · walk_at "gos"
        refine G.st_app eD (by rw [List.length_map, sizeLine_eq]; have := (List.getElem?_eq_some_iff.mp hx).1; simp at this; omega) fun H4 m4 e4 => ?_
        exact ⟨hn, k.md_new m4 hn, ns ++ [j], by rw [inZ, List.map_append]; exact e4, by rw [List.length_append, List.length_singleton]; omega, fun n hn' => (List.mem_append.mp hn').elim (m n) fun h => by
          rw [List.mem_singleton] at h
          omega⟩
    rintro D H1 ⟨nD, k1, ns1, eD, l1, m1⟩
    walk_at "gos"
    refine G.lc_seqG (σ0 := [some (.ref r), some (.ref D), none, none, none, none]) (xs := [.ref a, .ref b, .ref c]) (.inl ⟨rfl, k1 _ _ hr0⟩) (fun D i H' => H1 D = none ∧ G.Kp H1 H' ∧ ∃ ns : List Int, H' D = some (.lst (inZ ns)) ∧ ns.length ≤ i ∧ ∀ n ∈ ns, -12 ≤ n ∧ n ≤ 12) rfl (fun D H2 hn k eD => ⟨hn, k, [], eD, Nat.le_refl _, fun _ h => nomatch h⟩) (fun D i H' h => h.2.1) ?_ ?_
    · rintro D2 i x H' hx ⟨hn, k, ns, eD, l, m⟩
      obtain ⟨p, mv, j, rfl, it0, lj⟩ := tm i x hx
      have it := it0.kp (k1.trans k)
      cases mv
      · walk_at "gos"
        refine G.st_lcT ?_
        walk_at "gos"
        refine G.st_app eD (by rw [List.length_map, sizeLine_eq]; have := (List.getElem?_eq_some_iff.mp hx).1; simp at this; omega) fun H4 m4 e4 => ?_
        exact ⟨hn, k.md_new m4 hn, ns ++ [j], by rw [inZ, List.map_append]; exact e4, by rw [List.length_append, List.length_singleton]; omega, fun n hn' => (List.mem_append.mp hn').elim (m n) fun h => by
          rw [List.mem_singleton] at h
          omega⟩
      · walk_at "gos"
        first | exact G.st_lcF ⟨hn, k, ns, eD, by omega, m⟩ | exact ⟨hn, k, ns, eD, by omega, m⟩
    rintro D2 H2 ⟨nD2, k2, ns2, eD2, l2, m2⟩
    have l1' : ns1.length ≤ 3 := l1
    have l2' : ns2.length ≤ 3 := l2
    have eD' := k2 _ _ eD
    walk_at "gos"
    rename_i d3 H3 n3 k3 e3
    have add : ∀ {H4 : Hp}, G.Kp H2 H4 → ∀ y H5, G.Kp H4 H5 → H5 y = some (.lst (inZ ns1 ++ inZ ns2)) → Q (.ref y) H5 := fun {H4} k4 y H5 k5 e5 => q y H5 (ns1 ++ ns2) (k1.trans (k2.trans (k4.trans k5))) (by rw [inZ, List.map_append]; exact e5) ⟨by rw [List.length_append]; omega, fun n hn => (List.mem_append.mp hn).elim (fun h => by have := m1 n h; omega) fun h => by have := m2 n h; omega⟩
    refine eq_lists (ms := []) (k3 _ _ eD') e3 ?_
    by_cases z1 : ns1 = []
    · rw [decide_eq_true z1]
      walk_at "gos"
      refine G.add_ll (k3 _ _ eD') (k3 _ _ eD2) (by rw [List.length_map, List.length_map]; omega) fun y H5 n5 k5 e5 => ?_
      exact add k3 y H5 k5 e5
    rw [decide_eq_false z1]
    walk_at "gos"
    rename_i d4 H4 n4 k4 e4
    have K4 := k3.trans k4
    refine eq_lists (ms := []) (K4 _ _ eD2) e4 ?_
    by_cases z2 : ns2 = []
    · rw [decide_eq_true z2]
      walk_at "gos"
      refine G.add_ll (K4 _ _ eD') (K4 _ _ eD2) (by rw [List.length_map, List.length_map]; omega) fun y H5 n5 k5 e5 => ?_
      exact add K4 y H5 k5 e5
    rw [decide_eq_false z2]
    walk_at "gos"
    refine G.st_lc2 ?_
    walk_at "gos"
    refine G.lc2_mapK (σ0 := [some (.ref r), some (.ref D), none, some (.ref D2), none, none]) (K := K) subV (K4 _ _ eD2) (K4 _ _ eD') rfl (fun _ => rfl) (fun _ => rfl) (fun _ _ => rfl) (by rw [List.length_map]; omega) (by rw [List.length_map]; omega) (fun x H' R kk q => ?_) (fun x y H' R hx hy q => ?_) fun D5 H5 n5 k5 e5 => ?_
    · exact ⟨.ref D, rfl, D, rfl, ⟨inZ ns1, .of (kk _ _ (K4 _ _ eD'))⟩, q⟩
    · obtain ⟨i, hi, rfl⟩ := List.mem_map.mp hx
      obtain ⟨j, hj, rfl⟩ := List.mem_map.mp hy
      walk_at "gos"
      exact q
    · rw [flat_sub] at e5
      refine q _ _ _ (k1.trans (k2.trans (K4.trans k5))) e5 ⟨?_, fun n hn => ?_⟩
      · have : ∀ l : List Int, (l.flatMap fun i => ns1.map fun j => i - j).length = l.length * ns1.length := by
          intro l
          induction l with
          | nil => simp
          | cons z l ih => rw [List.flatMap_cons, List.length_append, List.length_map, ih, List.length_cons, Nat.succ_mul]; omega
        rw [this]
        exact Nat.le_trans (Nat.mul_le_mul l2' l1') (by decide)
      · obtain ⟨i, hi, hn⟩ := List.mem_flatMap.mp hn
        obtain ⟨j, hj, rfl⟩ := List.mem_map.mp hn
        have := m1 j hj
        have := m2 i hi
        omega
end
end Lw

namespace Lw
open PySem PySem.Spec PyProof.Rows L2
section
variable {P : Program} {w : World} {K : PySem.W.Frag} {mg : Str → Option Value} {base : Heap}
theorem pf_S {x y : V} : putF ("own_sizes" : Str) y (putF ("own_marks" : Str) x []) = ([("own_marks", x), ("own_sizes", y)] : List (Str × V)) := by
  have e : ¬ (("own_marks" : Str) = "own_sizes") := by decide +kernel
  show (if ("own_marks" : Str) = "own_sizes" then [(("own_marks" : Str), y)] else (("own_marks" : Str), x) :: putF "own_sizes" y []) = ([("own_marks", x), ("own_sizes", y)] : List (Str × V))
  rw [if_neg e]
  rfl
theorem ok_Saying_init (T : Tx K mg) : G.FnG P w K mg base CX0 2 (a_Saying_init K) (G.fdOf K (a_Saying_init K)) ["self", "marks", "comparisons", "deep"] (sp_Sinit K) := by
  refine G.ok_of (F_Saying_init T) sc_Saying_init (fun vs H Q E h => ?_) (fun cdv A outer s H vs Q E hr h => ?_)
  · obtain ⟨x, m, k, dx, ws, rfl, _⟩ := h
    rfl
  · obtain ⟨x, m, k, dx, ws, rfl, hx, hm, m24, ne, q⟩ := h
    refine ⟨_, (pss_cons (ps_if (pt_cmpR G.op_gtG (pv 2) (G.pe_ck (v := .int (12)) (G.pe_cl rfl (gl_Saying T)) (rd_Saying T) (ck_Saying_MOST T)) (nomark _)) (pss_one ps_never) pss_nil)
    (pss_cons (ps_if (pt_cmpR G.op_gtG (pv 3) (G.pe_ck (v := .int (6)) (G.pe_cl rfl (gl_Saying T)) (rd_Saying T) (ck_Saying_MOST_DEEP T)) (nomark _)) (pss_one ps_never) pss_nil)
    (pss_cons (ps_if (pt_cmpR G.op_gtG (pe_op G.op_subG (pe_ix ix_seq (pv 1) (pe_un G.un_negG pe_int) (fun _ _ => rfl)) (pe_ix ix_seq (pv 1) pe_int (fun _ _ => rfl))) (G.pe_ck (v := .int (48)) (G.pe_cl rfl (gl_Saying T)) (rd_Saying T) (ck_Saying_MOST_SPAN T)) (nomark _)) (pss_one ps_never) pss_nil)
    (pss_cons (ps_fld (pv 0) (pv 1) rfl)
    (pss_one (ps_fld (pv 0) (pe_tup (pa_cons (pv 2) (pa_cons (pv 3) pa_nil))) rfl)))))), ?_⟩
    walk_at "start"
    walk_at "gos"
    refine ifdF (by decide) ?_
    walk_at "gos"
    refine ifdF (by decide) ?_
    walk_at "gos"
    obtain ⟨w30, wb⟩ := m24
    have l1 : 1 ≤ ws.length := Nat.pos_of_ne_zero fun z => ne (List.eq_nil_of_length_eq_zero z)
    have hz : (inZ ws).length = ws.length := List.length_map ..
    obtain ⟨la, hla⟩ : ∃ y, ws[ws.length - 1]? = some y := ⟨ws[ws.length - 1], List.getElem?_eq_getElem (by omega)⟩
    obtain ⟨fi, hfi⟩ : ∃ y, ws[0]? = some y := ⟨ws[0], List.getElem?_eq_getElem (by omega)⟩
    have b1 := wb la (List.mem_of_getElem? hla)
    have b2 := wb fi (List.mem_of_getElem? hfi)
    have at1 : atI (inZ ws) (-1) = some (.int la) := by
      unfold atI ixN
      rw [hz, if_neg (by decide), if_pos (by omega), Option.bind_some, List.getElem?_map, show (-1 + (ws.length : Int)).toNat = ws.length - 1 by omega, hla]
      rfl
    have at0 : atI (inZ ws) 0 = some (.int fi) := by
      unfold atI ixN
      rw [hz, if_pos (by decide), if_pos (by omega), Option.bind_some, List.getElem?_map]
      show Option.map V.int ws[0]? = _
      rw [hfi]
      rfl
    refine G.ix_t (.of hm) at1 ?_
    walk_at "gos"
    refine G.ix_t (.of hm) at0 ?_
    walk_at "gos"
    refine ifdF (by omega) ?_
    walk_at "gos"
    refine G.st_setfldM hx (cm_ T k).cl (cm_ T k).nm (by decide) fun H6 m6 e6 => ?_
    walk_at "gos"
    rename_i sz H7 n7 k7 e7
    have e6' := k7 _ _ e6
    refine G.st_setfldM e6' (cm_ T k).cl (cm_ T k).ns (by show 1 < 1000; decide) fun H8 m8 e8 => ?_
    have e8' : H8 x = some (.ins (cmA K k) dx [("own_marks", .ref m), ("own_sizes", .ref sz)]) := e8.trans (congrArg (fun z => some (HO.ins (cmA K k) dx z)) pf_S)
    walk_at "gos"
    exact q H8 sz ((m6.trans (G.Mi.of_kp k7)).trans m8) e8' (m8.all _ _ (fun z => by rw [z] at n7; rw [n7] at e6; cases e6) e7)
end
end Lw

namespace Lw
open PySem PySem.Spec PyProof.Rows L2
section
variable {P : Program} {w : World} {K : PySem.W.Frag} {mg : Str → Option Value} {base : Heap}
theorem ok_Saying_deep (T : Tx K mg) : G.FnG P w K mg base CX0 1 (a_Saying_deep K) (G.fdOf K (a_Saying_deep K)) ["self"] (sp_deep K) := by
  refine G.ok_of (F_Saying_deep T) sc_Saying_deep (fun vs H Q E h => ?_) (fun cdv A outer s H vs Q E hr h => ?_)
  · obtain ⟨x, k, fs, rfl, _⟩ := h
    rfl
  · obtain ⟨x, k, fs, rfl, h1, q⟩ := h
    refine ⟨_, (pss_one (ps_ret (pe_ix ix_seq (pe_fld (pv 0) rfl) pe_int (fun _ _ => rfl)))), ?_⟩
    walk_at "start"
    walk_at "gos"
    refine fld_sz T h1 fun sz e => ?_
    walk_at "gos"
    exact q
theorem ok_Paired_arguments (T : Tx K mg) : G.FnG P w K mg base CX0 1 (a_Paired_arguments K) (G.fdOf K (a_Paired_arguments K)) ["self"] (sp_pargs K) := by
  refine G.ok_of (F_Paired_arguments T) sc_Paired_arguments (fun vs H Q E h => ?_) (fun cdv A outer s H vs Q E hr h => ?_)
  · obtain ⟨x, k, a, b, rfl, _⟩ := h
    rfl
  · obtain ⟨x, k, a, b, rfl, nb, h1, q⟩ := h
    refine ⟨_, (pss_one (ps_ret (pe_tup (pa_cons (pe_fld (pv 0) rfl) (pa_cons (pe_fld (pv 0) rfl) pa_nil))))), ?_⟩
    walk_at "start"
    walk_at "gos"
    exact q _ _ (by assumption) (by assumption) (by assumption)
theorem ok_Between_arguments (T : Tx K mg) : G.FnG P w K mg base CX0 1 (a_Between_arguments K) (G.fdOf K (a_Between_arguments K)) ["self"] (sp_wargs K) := by
  refine G.ok_of (F_Between_arguments T) sc_Between_arguments (fun vs H Q E h => ?_) (fun cdv A outer s H vs Q E hr h => ?_)
  · obtain ⟨x, a, b, c, rfl, _⟩ := h
    rfl
  · obtain ⟨x, a, b, c, rfl, h1, q⟩ := h
    refine ⟨_, (pss_one (ps_ret (pe_tup (pa_cons (pe_fld (pv 0) rfl) (pa_cons (pe_fld (pv 0) rfl) (pa_cons (pe_fld (pv 0) rfl) pa_nil)))))), ?_⟩
    walk_at "start"
    walk_at "gos"
    exact q _ _ (by assumption) (by assumption) (by assumption)
theorem okg_Comparing_parts (T : Tx K mg) : GFn P w K mg base 2 (a_Comparing_parts K) (G.fdOf K (a_Comparing_parts K)) ["self"] (sp_parts K) := by
  refine G.gok_of (F_Comparing_parts T) sg_Comparing_parts (fun vs H Q E h => ?_) (fun cdv A outer s H vs Q E pn hr h => ?_)
  · obtain ⟨x, rfl, _⟩ := h
    rfl
  · obtain ⟨x, rfl, q⟩ := h
    refine ⟨_, (gss_cons (gs_yield (pv 0)) gss_nil), ?_⟩
    exact ⟨by decide, _, rfl, q⟩
end
end Lw

namespace Lw
open PySem PySem.Spec PyProof.Rows L2
section
variable {P : Program} {w : World} {K : PySem.W.Frag} {mg : Str → Option Value} {base : Heap} {H H' : Hp} {Q : VK} {E : XK} {x y a b c f : Addr} {k : Wd} {σ : L2.St} {i : Nat} {ts : List Tm}
theorem lk_m {x : Addr} {k : Wd} {m : Str} (h : ObC K H x k (f2 a b)) (h1 : (m == ("own_marks" : Str)) = false) (h2 : (m == ("own_sizes" : Str)) = false) (h3 : (m == ("one" : Str)) = false) (h4 : (m == ("other" : Str)) = false) :
    ∃ dx fs, H x = some (.ins (cmA K k) dx fs) ∧ fs.lookup m = none := by
  obtain ⟨dx, m', sz, e, _⟩ := h
  exact ⟨dx, _, e, (lk_a h1 h2).trans (by simp [List.lookup, h3, h4])⟩
theorem lk_n {x : Addr} {m : Str} (h : ObC K H x .between (f3 a b c)) (h1 : (m == ("own_marks" : Str)) = false) (h2 : (m == ("own_sizes" : Str)) = false) (h3 : (m == ("first" : Str)) = false) (h4 : (m == ("inside" : Str)) = false) (h5 : (m == ("last" : Str)) = false) :
    ∃ dx fs, H x = some (.ins (cmA K .between) dx fs) ∧ fs.lookup m = none := by
  obtain ⟨dx, m', sz, e, _⟩ := h
  exact ⟨dx, _, e, (lk_a h1 h2).trans (by simp [List.lookup, h3, h4, h5])⟩
theorem me_args (T : Tx K mg) : ∀ k, k ≠ .between → Meth K (cmA K k) "arguments" (a_Paired_arguments K)
  | .at_, _ => me_At_arguments T
  | .below, _ => me_Below_arguments T
  | .between, h => (h rfl).elim
def OrArgs (K : PySem.W.Frag) (i : Nat) : TE := G.tOr (G.tMethP K "arguments" (a_Paired_arguments K) (sp_pargs K) [] E0 (tVar i) tNil) (G.tMethP K "arguments" (a_Between_arguments K) (sp_wargs K) [] E0 (tVar i) tNil)
theorem args_p (T : Tx K mg) (nb : k ≠ .between) (h : ObC K H x k (f2 a b)) (hs : σ[i]? = some (some (.ref x))) (q : ∀ y H', H y = none → G.Kp H H' → H' y = some (.tup [.ref a, .ref b]) → Q (.ref y) H') : OrArgs K i σ H Q := by
  obtain ⟨dx, fs, e, l⟩ := lk_m (m := "arguments") h (by decide +kernel) (by decide +kernel) (by decide +kernel) (by decide +kernel)
  exact .inl (G.st_methP ⟨_, hs, x, _, dx, fs, rfl, e, (cm_ T k).cl, me_args T k nb, l, ⟨x, k, a, b, rfl, nb, h, q⟩⟩)
theorem args_w (T : Tx K mg) (h : ObC K H x .between (f3 a b c)) (hs : σ[i]? = some (some (.ref x))) (q : ∀ y H', H y = none → G.Kp H H' → H' y = some (.tup [.ref a, .ref b, .ref c]) → Q (.ref y) H') : OrArgs K i σ H Q := by
  obtain ⟨dx, fs, e, l⟩ := lk_n (m := "arguments") h (by decide +kernel) (by decide +kernel) (by decide +kernel) (by decide +kernel) (by decide +kernel)
  exact .inr (G.st_methP ⟨_, hs, x, _, dx, fs, rfl, e, (cm_ T .between).cl, me_Between_arguments T, l, ⟨x, a, b, c, rfl, h, q⟩⟩)
theorem flds2 {k : Wd} (nb : k ≠ .between) (a b : Addr) : flds k [a, b] = f2 a b := by
  cases k with
  | at_ => rfl
  | below => rfl
  | between => exact (nb rfl).elim
/-- either way: the things in a tuple -/
theorem args_c (T : Tx K mg) (h : IsC K H x k ts) (hs : σ[i]? = some (some (.ref x))) (q : ∀ y H' as, H y = none → G.Kp H H' → H' y = some (.tup (as.map V.ref)) → as.length = wide k → TmL K H' as ts → Q (.ref y) H') : OrArgs K i σ H Q := by
  obtain ⟨as, l, o, t⟩ := h
  by_cases nb : k = .between
  · subst nb
    obtain ⟨a, b, c, s, u, z, rfl, rfl, _⟩ := t.three l
    exact args_w T o hs fun y H' n k e => q y H' [a, b, c] n k e l (t.kp k)
  · have l2 : as.length = 2 := by rw [l]; cases k <;> first | rfl | exact (nb rfl).elim
    obtain ⟨a, b, s, u, rfl, rfl, _⟩ := t.two l2
    rw [flds2 nb] at o
    exact args_p T nb o hs fun y H' n k e => q y H' [a, b] n k e l (t.kp k)
theorem TmL.len : ∀ {as : List Addr} {ts : List Tm}, TmL K H as ts → as.length = ts.length
  | [], [], _ => rfl
  | _ :: _, _ :: _, ⟨_, r⟩ => by rw [List.length_cons, List.length_cons, r.len]
theorem TmL.get : ∀ {as : List Addr} {ts : List Tm} {i : Nat} {a : Addr} {s : Tm}, TmL K H as ts → as[i]? = some a → ts[i]? = some s → IsTm K H a s.1 s.2
  | _ :: _, _ :: _, 0, _, _, ⟨h, _⟩, e1, e2 => by cases e1; cases e2; exact h
  | _ :: _, _ :: _, i + 1, _, _, ⟨_, r⟩, e1, e2 => r.get (i := i) (by simpa using e1) (by simpa using e2)
theorem ok_Comparing_keys_of (T : Tx K mg) : G.FnG P w K mg base CX0 5 (a_Comparing_keys_of K) (G.fdOf K (a_Comparing_keys_of K)) ["self", "n", "fifth"] (sp_keys K) := by
  refine G.ok_of (F_Comparing_keys_of T) sc_Comparing_keys_of (fun vs H Q E h => ?_) (fun cdv A outer s H vs Q E hr h => ?_)
  · obtain ⟨x, k, ts, n, f, t, b, rfl, _⟩ := h
    rfl
  · obtain ⟨x, k, ts, n, f, t, b, rfl, hx, hf, bn, b12, q⟩ := h
    refine ⟨_, (pss_one (ps_ret (pe_lc (own := [("term", 3)]) (by rfl) sc_Comparing_keys_of.nd (pi_tup (G.pe_or (G.pe_methP0 (pv 0) (ok_Paired_arguments T) (hr.mono (by first | decide | omega)) (bi_Paired_arguments T) .nil pass0 ) (G.pe_methP0 (pv 0) (ok_Between_arguments T) (hr.mono (by first | decide | omega)) (bi_Between_arguments T) .nil pass0 ))) (blkOk_by (N := ["self", "n", "fifth", "term"]) (sc := defScope s_Comparing_keys_of) (by decide +kernel)) (fun _ _ _ _ _ => (pg_name (i := 3) sc_Comparing_keys_of.nd rfl (Or.inl rfl))) (fun _ _ _ _ _ => pts_nil) (fun _ _ _ _ _ => (G.pe_callG (ok_key_of T) (hr.mono (by first | decide | omega)) rfl (gl_key_of T) (F_key_of T).kp (bi_key_of T) .nil pass0 (pa_cons (G.pe_methPK (K := K) rfl (pv 3) (ok_Term_note T) (hr.mono (by first | decide | omega)) (bi_Term_note T) .nil pass0 (pa_cons (pv 1) pa_nil)) (pa_cons (pv 2) pa_nil))))))), ?_⟩
    walk_at "start"
    walk_at "gos"
    refine args_c (i := 0) T hx rfl fun y H1 as n1 k1 e1 l1 t1 => ⟨y, rfl, ⟨_, .of e1⟩, ?_⟩
    have ll := t1.len
    have l3 : as.length ≤ 3 := by rw [l1]; cases k <;> decide
    refine G.lc_map1 (σ0 := [some (.ref x), some (.int n), some (.ref f), none]) (xs := as.map V.ref) (ys := inZ (ts.map (kyT n t b))) (.inr ⟨rfl, e1⟩) rfl (fun x => rfl) (by rw [List.length_map, List.length_map, List.length_map]; exact ll) (by rw [List.length_map]; omega) ?_ ?_
    · intro i v y H' R hv hy k2 hR
      rw [List.getElem?_map] at hv hy
      rw [List.getElem?_map] at hy
      cases ha : as[i]? with
      | none => rw [ha] at hv; cases hv
      | some a =>
        cases hs : ts[i]? with
        | none => rw [hs] at hy; cases hy
        | some s =>
          rw [ha] at hv
          rw [hs] at hy
          cases hv
          cases hy
          have it := (t1.get ha hs).kp k2
          have bs := b12 s (List.mem_of_getElem? hs)
          have bm := bd_mvi s.1
          have b2 : G.Bd 10 s.2 := (G.Bd.of_le (G.Bd.lit 12) (by have := bs.1; have := bs.2; omega)).mono (by decide +kernel)
          walk_at "gos"
          exact hR _ .refl
    · intro D H' hn eD k2
      exact q D H' (k1.back hn) (k1.trans k2) eD
end
end Lw

namespace Lw
open PySem PySem.Spec PyProof.Rows L2
section
variable {P : Program} {w : World} {K : PySem.W.Frag} {mg : Str → Option Value} {base : Heap} {H H' : Hp} {Q : VK} {E : XK} {x y a b c f : Addr} {k : Wd} {σ : L2.St} {i : Nat} {ts : List Tm}
/-- a method of the object, found in its class -/
theorem rc_c {m : Str} {g : Addr} {R : Prop} (T : Tx K mg) (h : IsC K H x k ts) (me : Meth K (cmA K k) m g) (h1 : (m == ("own_marks" : Str)) = false) (h2 : (m == ("own_sizes" : Str)) = false) (h3 : (m == ("first" : Str)) = false) (h4 : (m == ("inside" : Str)) = false) (h5 : (m == ("last" : Str)) = false) (h6 : (m == ("one" : Str)) = false) (h7 : (m == ("other" : Str)) = false) (q : R) : G.RecvP K m g (.ref x) H R := by
  obtain ⟨as, l, o, t⟩ := h
  by_cases nb : k = .between
  · subst nb
    obtain ⟨a, b, c, s, u, z, rfl, rfl, _⟩ := t.three l
    obtain ⟨dx, fs, e, l⟩ := lk_n o h1 h2 h3 h4 h5
    exact ⟨x, _, dx, fs, rfl, e, (cm_ T .between).cl, me, l, q⟩
  · have l2 : as.length = 2 := by rw [l]; cases k <;> first | rfl | exact (nb rfl).elim
    obtain ⟨a, b, s, u, rfl, rfl, _⟩ := t.two l2
    rw [flds2 nb] at o
    obtain ⟨dx, fs, e, l⟩ := lk_m o h1 h2 h6 h7
    exact ⟨x, _, dx, fs, rfl, e, (cm_ T k).cl, me, l, q⟩
theorem rc_keys {R : Prop} (T : Tx K mg) (h : IsC K H x k ts) (q : R) : G.RecvP K "keys_of" (a_Comparing_keys_of K) (.ref x) H R := rc_c T h (cm_ T k).keys (by decide +kernel) (by decide +kernel) (by decide +kernel) (by decide +kernel) (by decide +kernel) (by decide +kernel) (by decide +kernel) q
theorem bd_md {m : Nat} {x y : Int} (h : 0 < y) (k : G.Bd m y) : G.Bd m (x % y) := G.Bd.of_le k (by
  have := Int.emod_nonneg x (show y ≠ 0 by omega)
  have := Int.emod_lt_of_pos x h
  omega)
theorem keys_c {n t d : Int} (h : IsC K H x k ts) (hf : IsR K H f t d) (bn : G.Bd 300 n) (b12 : ∀ s ∈ ts, In12 s) (q : ∀ r H', H r = none → G.Kp H H' → H' r = some (.lst (inZ (ts.map (kyT n t d)))) → Q (.ref r) H') : sp_keys K [.ref x, .int n, .ref f] H Q E := ⟨x, k, ts, n, f, t, d, rfl, h, hf, bn, b12, q⟩
theorem ok_At_holds (T : Tx K mg) : G.FnG P w K mg base CX0 6 (a_At_holds K) (G.fdOf K (a_At_holds K)) ["self", "n", "fifth"] (sp_holds K .at_) := by
  refine G.ok_of (F_At_holds T) sc_At_holds (fun vs H Q E h => ?_) (fun cdv A outer s H vs Q E hr h => ?_)
  · obtain ⟨x, ts, n, f, t, b, rfl, _⟩ := h
    rfl
  · obtain ⟨x, ts, n, f, t, b, rfl, hx, hf, bn, b12, q⟩ := h
    obtain ⟨s, u, rfl⟩ : ∃ s u, ts = [s, u] := by
      obtain ⟨as, l, o, t⟩ := hx
      obtain ⟨_, _, s, u, _, e, _⟩ := t.two l
      exact ⟨s, u, e⟩
    refine ⟨_, (pss_cons (ps_asg (G.pe_methP (pv 0) (ok_Comparing_keys_of T) (hr.mono (by first | decide | omega)) (bi_Comparing_keys_of T) .nil pass0 (pa_cons (pv 1) (pa_cons (pv 2) pa_nil))) (pg_lst (n := 2) (by rfl) (pgs_cons (pg_name (i := 3) sc_At_holds.nd rfl (Or.inl rfl)) (pgs_cons (pg_name (i := 4) sc_At_holds.nd rfl (Or.inl rfl)) pgs_nil))))
    (pss_one (ps_ret (pe_cmpR (G.op_eqG hr.units) (pv 3) (pv 4) (nomark _))))), ?_⟩
    walk_at "start"
    walk_at "gos"
    refine rc_keys T hx ?_
    walk_at "gos"
    refine keys_c hx hf bn b12 fun r H1 n1 k1 e1 => ?_
    simp only [List.map_cons, List.map_nil, inZ] at e1
    walk_at "gos"
    exact q _ k1
theorem ok_Below_holds (T : Tx K mg) : G.FnG P w K mg base CX0 6 (a_Below_holds K) (G.fdOf K (a_Below_holds K)) ["self", "n", "fifth"] (sp_holds K .below) := by
  refine G.ok_of (F_Below_holds T) sc_Below_holds (fun vs H Q E h => ?_) (fun cdv A outer s H vs Q E hr h => ?_)
  · obtain ⟨x, ts, n, f, t, b, rfl, _⟩ := h
    rfl
  · obtain ⟨x, ts, n, f, t, b, rfl, hx, hf, bn, b12, q⟩ := h
    obtain ⟨s, u, rfl⟩ : ∃ s u, ts = [s, u] := by
      obtain ⟨as, l, o, t⟩ := hx
      obtain ⟨_, _, s, u, _, e, _⟩ := t.two l
      exact ⟨s, u, e⟩
    refine ⟨_, (pss_cons (ps_asg (G.pe_methP (pv 0) (ok_Comparing_keys_of T) (hr.mono (by first | decide | omega)) (bi_Comparing_keys_of T) .nil pass0 (pa_cons (pv 1) (pa_cons (pv 2) pa_nil))) (pg_lst (n := 2) (by rfl) (pgs_cons (pg_name (i := 3) sc_Below_holds.nd rfl (Or.inl rfl)) (pgs_cons (pg_name (i := 4) sc_Below_holds.nd rfl (Or.inl rfl)) pgs_nil))))
    (pss_one (ps_ret (pe_cmpR G.op_ltG (pv 3) (pv 4) (nomark _))))), ?_⟩
    walk_at "start"
    walk_at "gos"
    refine rc_keys T hx ?_
    walk_at "gos"
    refine keys_c hx hf bn b12 fun r H1 n1 k1 e1 => ?_
    simp only [List.map_cons, List.map_nil, inZ] at e1
    walk_at "gos"
    exact q _ k1
theorem ok_Between_holds (T : Tx K mg) : G.FnG P w K mg base CX0 6 (a_Between_holds K) (G.fdOf K (a_Between_holds K)) ["self", "n", "fifth"] (sp_holds K .between) := by
  refine G.ok_of (F_Between_holds T) sc_Between_holds (fun vs H Q E h => ?_) (fun cdv A outer s H vs Q E hr h => ?_)
  · obtain ⟨x, ts, n, f, t, b, rfl, _⟩ := h
    rfl
  · obtain ⟨x, ts, n, f, t, b, rfl, hx, hf, bn, b12, q⟩ := h
    obtain ⟨s, u, z, rfl⟩ : ∃ s u z, ts = [s, u, z] := by
      obtain ⟨as, l, o, t⟩ := hx
      obtain ⟨_, _, _, s, u, z, _, e, _⟩ := t.three l
      exact ⟨s, u, z, e⟩
    refine ⟨_, (pss_cons (ps_asg (G.pe_methP (pv 0) (ok_Comparing_keys_of T) (hr.mono (by first | decide | omega)) (bi_Comparing_keys_of T) .nil pass0 (pa_cons (pv 1) (pa_cons (pv 2) pa_nil))) (pg_lst (n := 3) (by rfl) (pgs_cons (pg_name (i := 3) sc_Between_holds.nd rfl (Or.inl rfl)) (pgs_cons (pg_name (i := 4) sc_Between_holds.nd rfl (Or.inl rfl)) (pgs_cons (pg_name (i := 5) sc_Between_holds.nd rfl (Or.inl rfl)) pgs_nil)))))
    (pss_one (ps_ret (pe_chain G.op_ltG G.op_ltG pe_int (pe_op G.op_modG (pe_op G.op_subG (pv 4) (pv 3)) (pe_fld (pv 2) rfl)) (pe_op G.op_modG (pe_op G.op_subG (pv 5) (pv 3)) (pe_fld (pv 2) rfl)))))), ?_⟩
    walk_at "start"
    walk_at "gos"
    refine rc_keys T hx ?_
    walk_at "gos"
    refine keys_c hx hf bn b12 fun r H1 n1 k1 e1 => ?_
    simp only [List.map_cons, List.map_nil, inZ] at e1
    have hf1 := hf.kp k1
    have b0 := hf.pos
    have bb := hf.bb
    have ks : G.Bd 4000 (kyT n t b s) := bd_md b0 bb
    have ku : G.Bd 4000 (kyT n t b u) := bd_md b0 bb
    have kz : G.Bd 4000 (kyT n t b z) := bd_md b0 bb
    walk_at "gos"
    by_cases c1 : 0 < (kyT n t b u - kyT n t b s) % b
    · refine ifdT c1 ?_
      walk_at "gos"
      have e : hold .between [s, u, z] n t b = decide ((kyT n t b u - kyT n t b s) % b < (kyT n t b z - kyT n t b s) % b) := by
        show decide (_ ∧ _) = _
        simp [c1]
      rw [← e]
      exact q _ k1
    · refine ifdF c1 ?_
      have e : hold .between [s, u, z] n t b = false := by
        show decide (_ ∧ _) = _
        simp [c1]
      rw [← e]
      exact q _ k1
end
end Lw

namespace Lw
open PySem PySem.Spec PyProof.Rows L2
section
variable {P : Program} {w : World} {K : PySem.W.Frag} {mg : Str → Option Value} {base : Heap} {H H' : Hp} {Q : VK} {E : XK} {x y a b c f : Addr} {k : Wd} {s u z : Tm}
theorem need_T {mv : Bool} {i : Int} {t : Str} (h : IsTm K H a mv i) (q : Q .non H) : sp_need_term K [.ref a, .str t] H Q E := ⟨a, t, mv, i, rfl, h, q⟩
theorem mpair_T {e : Bool} (h1 : IsTm K H a s.1 s.2) (h2 : IsTm K H b u.1 u.2) (i1 : In12 s) (i2 : In12 u) (q : ∀ r H' ns, G.Kp H H' → H' r = some (.lst (inZ ns)) → M24 ns → Q (.ref r) H') : sp_mpair K [.ref a, .ref b, .bl e] H Q E := ⟨a, b, s, u, e, rfl, h1, h2, i1, i2, q⟩
theorem mwith_T {r : Addr} {ns : List Int} (h : H r = some (.lst (inZ ns))) (m : M24 ns) (q : ∀ y H' ws, G.Kp H H' → H' y = some (.tup (inZ ws)) → W24 ws → ws ≠ [] → Q (.ref y) H') : sp_mwith K [.ref r] H Q E := ⟨r, ns, rfl, h, m, q⟩
theorem Sinit_T {m dx : Addr} {ws : List Int} (hx : H x = some (.ins (cmA K k) dx [])) (hm : H m = some (.tup (inZ ws))) (w : W24 ws) (ne : ws ≠ []) (q : ∀ H' sz, G.Mi x H H' → H' x = some (.ins (cmA K k) dx [("own_marks", .ref m), ("own_sizes", .ref sz)]) → H' sz = some (.tup [.int 1, .int 1]) → Q .non H') : sp_Sinit K [.ref x, .ref m, .int 1, .int 1] H Q E := ⟨x, m, k, dx, ws, rfl, hx, hm, w, ne, q⟩
theorem mthree_T {r : Addr} (h : H r = some (.lst [.ref a, .ref b, .ref c])) (h1 : IsTm K H a s.1 s.2) (h2 : IsTm K H b u.1 u.2) (h3 : IsTm K H c z.1 z.2) (i1 : In12 s) (i2 : In12 u) (i3 : In12 z) (q : ∀ r H' ns, G.Kp H H' → H' r = some (.lst (inZ ns)) → M24 ns → Q (.ref r) H') : sp_mthree K [.ref r] H Q E := ⟨r, a, b, c, s, u, z, rfl, h, h1, h2, h3, i1, i2, i3, q⟩
theorem pf_A {p q a b : V} : putF ("other" : Str) b (putF ("one" : Str) a [("own_marks", p), ("own_sizes", q)]) = ([("own_marks", p), ("own_sizes", q), ("one", a), ("other", b)] : List (Str × V)) := by
  have e1 : ¬ (("own_marks" : Str) = "one") := by decide +kernel
  have e2 : ¬ (("own_sizes" : Str) = "one") := by decide +kernel
  have e3 : ¬ (("own_marks" : Str) = "other") := by decide +kernel
  have e4 : ¬ (("own_sizes" : Str) = "other") := by decide +kernel
  have e5 : ¬ (("one" : Str) = "other") := by decide +kernel
  simp [putF, e1, e2, e3, e4, e5]
theorem pf_W {p q a b c : V} : putF ("last" : Str) c (putF ("inside" : Str) b (putF ("first" : Str) a [("own_marks", p), ("own_sizes", q)])) = ([("own_marks", p), ("own_sizes", q), ("first", a), ("inside", b), ("last", c)] : List (Str × V)) := by
  have e1 : ¬ (("own_marks" : Str) = "first") := by decide +kernel
  have e2 : ¬ (("own_sizes" : Str) = "first") := by decide +kernel
  have e3 : ¬ (("own_marks" : Str) = "inside") := by decide +kernel
  have e4 : ¬ (("own_sizes" : Str) = "inside") := by decide +kernel
  have e5 : ¬ (("own_marks" : Str) = "last") := by decide +kernel
  have e6 : ¬ (("own_sizes" : Str) = "last") := by decide +kernel
  have e7 : ¬ (("first" : Str) = "inside") := by decide +kernel
  have e8 : ¬ (("first" : Str) = "last") := by decide +kernel
  have e9 : ¬ (("inside" : Str) = "last") := by decide +kernel
  simp [putF, e1, e2, e3, e4, e5, e6, e7, e8, e9]
theorem ok_At_init (T : Tx K mg) : G.FnG P w K mg base CX0 5 (a_At_init K) (G.fdOf K (a_At_init K)) ["self", "one", "other"] (sp_Ainit K .at_) := by
  refine G.ok_of (F_At_init T) sc_At_init (fun vs H Q E h => ?_) (fun cdv A outer s H vs Q E hr h => ?_)
  · obtain ⟨x, dx, a, b, s, u, rfl, _⟩ := h
    rfl
  · obtain ⟨x, dx, a, b, s, u, rfl, hx, h1, h2, i1, i2, q⟩ := h
    refine ⟨_, (pss_cons (ps_expr (G.pe_callG (ok_need_term T) (hr.mono (by first | decide | omega)) rfl (gl_need_term T) (F_need_term T).kp (bi_need_term T) .nil pass0 (pa_cons (pv 1) (pa_cons pe_str pa_nil))))
    (pss_cons (ps_expr (G.pe_callG (ok_need_term T) (hr.mono (by first | decide | omega)) rfl (gl_need_term T) (F_need_term T).kp (bi_need_term T) .nil pass0 (pa_cons (pv 2) (pa_cons pe_str pa_nil))))
    (pss_cons (ps_expr (G.pe_cfn (G.pe_cl rfl (gl_Comparing T)) (rd_Comparing T) (cf_Comparing_init T) (ok_Saying_init T) (hr.mono (by first | decide | omega)) (bi_Saying_init T) .nil pass0 (pa_cons (pv 0) (pa_cons (G.pe_callG (ok_marks_with T) (hr.mono (by first | decide | omega)) rfl (gl_marks_with T) (F_marks_with T).kp (bi_marks_with T) .nil pass0 (pa_cons (G.pe_callG (ok_marks_of_pair T) (hr.mono (by first | decide | omega)) rfl (gl_marks_of_pair T) (F_marks_of_pair T).kp (bi_marks_of_pair T) .nil pass0 (pa_cons (pv 1) (pa_cons (pv 2) (pa_cons pe_bl pa_nil)))) pa_nil)) (pa_cons pe_int (pa_cons pe_int pa_nil))))))
    (pss_cons (ps_fld (pv 0) (pv 1) rfl)
    (pss_one (ps_fld (pv 0) (pv 2) rfl)))))), ?_⟩
    walk_at "start"
    walk_at "gos"
    refine need_T h1 ?_
    walk_at "gos"
    refine need_T h2 ?_
    walk_at "gos"
    refine mpair_T h1 h2 i1 i2 fun r H1 ns k1 e1 m1 => ?_
    walk_at "gos"
    refine mwith_T e1 m1 fun y H2 ws k2 e2 m2 ne => ?_
    walk_at "gos"
    have K2 := k1.trans k2
    refine Sinit_T (k := .at_) (K2 _ _ hx) e2 m2 ne fun H3 sz m3 e3 e4 => ?_
    walk_at "gos"
    refine G.st_setfldM e3 (cm_ T .at_).cl (na_o T .at_ (by decide)) (by show 2 < 1000; decide) fun H4 m4 e5 => ?_
    walk_at "gos"
    refine G.st_setfldM e5 (cm_ T .at_).cl (na_r T .at_ (by decide)) (by show 3 < 1000; decide) fun H5 m5 e6 => ?_
    walk_at "gos"
    have e7 : H5 x = some (.ins (cmA K .at_) dx (("own_marks", .ref y) :: ("own_sizes", .ref sz) :: f2 a b)) := e6.trans (congrArg (fun z => some (HO.ins (cmA K .at_) dx z)) pf_A)
    have sx : sz ≠ x := fun z => by rw [z, e3] at e4; cases e4
    exact q H5 ((((G.Mi.of_kp K2).trans m3).trans m4).trans m5) ⟨dx, y, sz, e7, m5.all _ _ sx (m4.all _ _ sx e4)⟩
theorem ok_Below_init (T : Tx K mg) : G.FnG P w K mg base CX0 5 (a_Below_init K) (G.fdOf K (a_Below_init K)) ["self", "one", "other"] (sp_Ainit K .below) := by
  refine G.ok_of (F_Below_init T) sc_Below_init (fun vs H Q E h => ?_) (fun cdv A outer s H vs Q E hr h => ?_)
  · obtain ⟨x, dx, a, b, s, u, rfl, _⟩ := h
    rfl
  · obtain ⟨x, dx, a, b, s, u, rfl, hx, h1, h2, i1, i2, q⟩ := h
    refine ⟨_, (pss_cons (ps_expr (G.pe_callG (ok_need_term T) (hr.mono (by first | decide | omega)) rfl (gl_need_term T) (F_need_term T).kp (bi_need_term T) .nil pass0 (pa_cons (pv 1) (pa_cons pe_str pa_nil))))
    (pss_cons (ps_expr (G.pe_callG (ok_need_term T) (hr.mono (by first | decide | omega)) rfl (gl_need_term T) (F_need_term T).kp (bi_need_term T) .nil pass0 (pa_cons (pv 2) (pa_cons pe_str pa_nil))))
    (pss_cons (ps_expr (G.pe_cfn (G.pe_cl rfl (gl_Comparing T)) (rd_Comparing T) (cf_Comparing_init T) (ok_Saying_init T) (hr.mono (by first | decide | omega)) (bi_Saying_init T) .nil pass0 (pa_cons (pv 0) (pa_cons (G.pe_callG (ok_marks_with T) (hr.mono (by first | decide | omega)) rfl (gl_marks_with T) (F_marks_with T).kp (bi_marks_with T) .nil pass0 (pa_cons (G.pe_callG (ok_marks_of_pair T) (hr.mono (by first | decide | omega)) rfl (gl_marks_of_pair T) (F_marks_of_pair T).kp (bi_marks_of_pair T) .nil pass0 (pa_cons (pv 1) (pa_cons (pv 2) (pa_cons pe_bl pa_nil)))) pa_nil)) (pa_cons pe_int (pa_cons pe_int pa_nil))))))
    (pss_cons (ps_fld (pv 0) (pv 1) rfl)
    (pss_one (ps_fld (pv 0) (pv 2) rfl)))))), ?_⟩
    walk_at "start"
    walk_at "gos"
    refine need_T h1 ?_
    walk_at "gos"
    refine need_T h2 ?_
    walk_at "gos"
    refine mpair_T h1 h2 i1 i2 fun r H1 ns k1 e1 m1 => ?_
    walk_at "gos"
    refine mwith_T e1 m1 fun y H2 ws k2 e2 m2 ne => ?_
    walk_at "gos"
    have K2 := k1.trans k2
    refine Sinit_T (k := .below) (K2 _ _ hx) e2 m2 ne fun H3 sz m3 e3 e4 => ?_
    walk_at "gos"
    refine G.st_setfldM e3 (cm_ T .below).cl (na_o T .below (by decide)) (by show 2 < 1000; decide) fun H4 m4 e5 => ?_
    walk_at "gos"
    refine G.st_setfldM e5 (cm_ T .below).cl (na_r T .below (by decide)) (by show 3 < 1000; decide) fun H5 m5 e6 => ?_
    walk_at "gos"
    have e7 : H5 x = some (.ins (cmA K .below) dx (("own_marks", .ref y) :: ("own_sizes", .ref sz) :: f2 a b)) := e6.trans (congrArg (fun z => some (HO.ins (cmA K .below) dx z)) pf_A)
    have sx : sz ≠ x := fun z => by rw [z, e3] at e4; cases e4
    exact q H5 ((((G.Mi.of_kp K2).trans m3).trans m4).trans m5) ⟨dx, y, sz, e7, m5.all _ _ sx (m4.all _ _ sx e4)⟩
theorem ok_Between_init (T : Tx K mg) : G.FnG P w K mg base CX0 5 (a_Between_init K) (G.fdOf K (a_Between_init K)) ["self", "first", "inside", "last"] (sp_Winit K) := by
  refine G.ok_of (F_Between_init T) sc_Between_init (fun vs H Q E h => ?_) (fun cdv A outer s H vs Q E hr h => ?_)
  · obtain ⟨x, dx, a, b, c, s, u, z, rfl, _⟩ := h
    rfl
  · obtain ⟨x, dx, a, b, c, s, u, z, rfl, hx, h1, h2, h3, i1, i2, i3, q⟩ := h
    refine ⟨_, (pss_cons (ps_expr (G.pe_callG (ok_need_term T) (hr.mono (by first | decide | omega)) rfl (gl_need_term T) (F_need_term T).kp (bi_need_term T) .nil pass0 (pa_cons (pv 1) (pa_cons pe_str pa_nil))))
    (pss_cons (ps_expr (G.pe_callG (ok_need_term T) (hr.mono (by first | decide | omega)) rfl (gl_need_term T) (F_need_term T).kp (bi_need_term T) .nil pass0 (pa_cons (pv 2) (pa_cons pe_str pa_nil))))
    (pss_cons (ps_expr (G.pe_callG (ok_need_term T) (hr.mono (by first | decide | omega)) rfl (gl_need_term T) (F_need_term T).kp (bi_need_term T) .nil pass0 (pa_cons (pv 3) (pa_cons pe_str pa_nil))))
    (pss_cons (ps_expr (G.pe_cfn (G.pe_cl rfl (gl_Comparing T)) (rd_Comparing T) (cf_Comparing_init T) (ok_Saying_init T) (hr.mono (by first | decide | omega)) (bi_Saying_init T) .nil pass0 (pa_cons (pv 0) (pa_cons (G.pe_callG (ok_marks_with T) (hr.mono (by first | decide | omega)) rfl (gl_marks_with T) (F_marks_with T).kp (bi_marks_with T) .nil pass0 (pa_cons (G.pe_callG (ok_marks_of_three T) (hr.mono (by first | decide | omega)) rfl (gl_marks_of_three T) (F_marks_of_three T).kp (bi_marks_of_three T) .nil pass0 (pa_cons (pe_lst (pa_cons (pv 1) (pa_cons (pv 2) (pa_cons (pv 3) pa_nil)))) pa_nil)) pa_nil)) (pa_cons pe_int (pa_cons pe_int pa_nil))))))
    (pss_cons (ps_fld (pv 0) (pv 1) rfl)
    (pss_cons (ps_fld (pv 0) (pv 2) rfl)
    (pss_one (ps_fld (pv 0) (pv 3) rfl)))))))), ?_⟩
    walk_at "start"
    walk_at "gos"
    refine need_T h1 ?_
    walk_at "gos"
    refine need_T h2 ?_
    walk_at "gos"
    refine need_T h3 ?_
    walk_at "gos"
    rename_i l0 H0 n0 k0 e0
    refine mthree_T e0 (h1.kp k0) (h2.kp k0) (h3.kp k0) i1 i2 i3 fun r H1 ns k1 e1 m1 => ?_
    walk_at "gos"
    refine mwith_T e1 m1 fun y H2 ws k2 e2 m2 ne => ?_
    walk_at "gos"
    have K2 := k0.trans (k1.trans k2)
    refine Sinit_T (k := .between) (K2 _ _ hx) e2 m2 ne fun H3 sz m3 e3 e4 => ?_
    walk_at "gos"
    refine G.st_setfldM e3 (cm_ T .between).cl (na_Between_first T) (by show 2 < 1000; decide) fun H4 m4 e5 => ?_
    walk_at "gos"
    refine G.st_setfldM e5 (cm_ T .between).cl (na_Between_inside T) (by show 3 < 1000; decide) fun H5 m5 e6 => ?_
    walk_at "gos"
    refine G.st_setfldM e6 (cm_ T .between).cl (na_Between_last T) (by show 4 < 1000; decide) fun H6 m6 e7 => ?_
    walk_at "gos"
    have e8 : H6 x = some (.ins (cmA K .between) dx (("own_marks", .ref y) :: ("own_sizes", .ref sz) :: f3 a b c)) := e7.trans (congrArg (fun z => some (HO.ins (cmA K .between) dx z)) pf_W)
    have sx : sz ≠ x := fun z => by rw [z, e3] at e4; cases e4
    exact q H6 (((((G.Mi.of_kp K2).trans m3).trans m4).trans m5).trans m6) ⟨dx, y, sz, e8, m6.all _ _ sx (m5.all _ _ sx (m4.all _ _ sx e4))⟩
end
end Lw

namespace Lw
open PySem PySem.Spec PyProof.Rows L2
section
variable {P : Program} {w : World} {K : PySem.W.Frag} {mg : Str → Option Value} {base : Heap} {H H' : Hp} {Q : VK} {E : XK} {x y a b c f : Addr} {k l : Wd} {s u z : Tm} {ts us : List Tm} {σ : L2.St} {v : V}
theorem me_holdsA (T : Tx K mg) : Meth K (cmA K .at_) "holds" (a_At_holds K) := me_At_holds T
def OrHolds (K : PySem.W.Frag) (i j l : Nat) : TE := G.tOr (G.tMethP K "holds" (a_At_holds K) (sp_holds K .at_) [] E0 (tVar i) (tCons (tVar j) (tCons (tVar l) tNil))) (G.tOr (G.tMethP K "holds" (a_Below_holds K) (sp_holds K .below) [] E0 (tVar i) (tCons (tVar j) (tCons (tVar l) tNil))) (G.tMethP K "holds" (a_Between_holds K) (sp_holds K .between) [] E0 (tVar i) (tCons (tVar j) (tCons (tVar l) tNil))))
theorem holds_c (T : Tx K mg) {i j l : Nat} {n t b : Int} (h : IsC K H x k ts) (hf : IsR K H f t b) (bn : G.Bd 300 n) (b12 : ∀ s ∈ ts, In12 s) (h1 : σ[i]? = some (some (.ref x))) (h2 : σ[j]? = some (some (.int n))) (h3 : σ[l]? = some (some (.ref f))) (q : ∀ H', G.Kp H H' → Q (.bl (hold k ts n t b)) H') : OrHolds K i j l σ H Q := by
  have arg : sp_holds K k [.ref x, .int n, .ref f] H Q E0 := ⟨x, ts, n, f, t, b, rfl, h, hf, bn, b12, q⟩
  have tl : ∀ {R : List V → Hp → Prop}, R [.int n, .ref f] H → (tCons (tVar j) (tCons (tVar l) tNil)) σ H R := fun r => ⟨_, h2, _, h3, r⟩
  cases k with
  | at_ => exact .inl (G.st_methP ⟨_, h1, rc_c T h (me_At_holds T) (by decide +kernel) (by decide +kernel) (by decide +kernel) (by decide +kernel) (by decide +kernel) (by decide +kernel) (by decide +kernel) (tl arg)⟩)
  | below => exact .inr (.inl (G.st_methP ⟨_, h1, rc_c T h (me_Below_holds T) (by decide +kernel) (by decide +kernel) (by decide +kernel) (by decide +kernel) (by decide +kernel) (by decide +kernel) (by decide +kernel) (tl arg)⟩))
  | between => exact .inr (.inr (G.st_methP ⟨_, h1, rc_c T h (me_Between_holds T) (by decide +kernel) (by decide +kernel) (by decide +kernel) (by decide +kernel) (by decide +kernel) (by decide +kernel) (by decide +kernel) (tl arg)⟩))
theorem ifNT {A B : Prop} (q : B) : if (!true) = true then A else B := by rw [if_neg (by simp)]; exact q
theorem ok_Saying_call (T : Tx K mg) : G.FnG P w K mg base CX0 8 (a_Saying_call K) (G.fdOf K (a_Saying_call K)) ["self", "n", "fifth"] (sp_call K) := by
  refine G.ok_of (F_Saying_call T) sc_Saying_call (fun vs H Q E h => ?_) (fun cdv A outer s H vs Q E hr h => ?_)
  · obtain ⟨x, k, ts, n, f, t, b, rfl, _⟩ := h
    rfl
  · obtain ⟨x, k, ts, n, f, t, b, rfl, hx, hf, t0, tb, bn, b12, q⟩ := h
    refine ⟨_, (pss_cons (ps_if (pt_not (pt_val (G.pe_callG (ok_is_integer T) (hr.mono (by first | decide | omega)) rfl (gl_is_integer T) (F_is_integer T).kp (bi_is_integer T) .nil pass0 (pa_cons (pv 1) pa_nil)))) (pss_one ps_never) pss_nil)
    (pss_cons (ps_expr (G.pe_callG (ok_need_fifth T) (hr.mono (by first | decide | omega)) rfl (gl_need_fifth T) (F_need_fifth T).kp (bi_need_fifth T) .nil pass0 (pa_cons (pv 2) pa_nil)))
    (pss_one (ps_ret (G.pe_or (G.pe_methP (pv 0) (ok_At_holds T) (hr.mono (by first | decide | omega)) (bi_At_holds T) .nil pass0 (pa_cons (pv 1) (pa_cons (pv 2) pa_nil))) (G.pe_or (G.pe_methP (pv 0) (ok_Below_holds T) (hr.mono (by first | decide | omega)) (bi_Below_holds T) .nil pass0 (pa_cons (pv 1) (pa_cons (pv 2) pa_nil))) (G.pe_methP (pv 0) (ok_Between_holds T) (hr.mono (by first | decide | omega)) (bi_Between_holds T) .nil pass0 (pa_cons (pv 1) (pa_cons (pv 2) pa_nil))))))))), ?_⟩
    walk_at "start"
    walk_at "gos"
    refine ifNT ?_
    walk_at "gos"
    refine holds_c (i := 0) (j := 1) (l := 2) T hx hf bn b12 rfl rfl rfl fun H1 k1 => ?_
    exact q H1 k1
theorem tmA_inj (T : Tx K mg) {m n : Bool} (h : tmA K m = tmA K n) : m = n := by
  obtain ⟨u, c⟩ := (tc_ T m).con
  obtain ⟨v, d⟩ := (tc_ T n).con
  have e := c.at_
  rw [h, d.at_] at e
  cases e
  obtain ⟨t, e1⟩ := c.rel
  obtain ⟨t', e2⟩ := d.rel
  rw [e1] at e2
  injection e2 with e2
  cases m <;> cases n <;> first | rfl | (exfalso; revert e2; decide)
theorem IsC.ty (T : Tx K mg) (h : IsC K H x k ts) : TyX K H (.ref x) (.ref (cmA K k)) := let ⟨_, _, o, _⟩ := h; o.ty T
theorem NoS.ty (T : Tx K mg) (h : NoS H v) : ∃ tv, TyX K H v tv ∧ PySem.W.kitOne K tv (.ref (He.ga K "Saying")) = some false ∧ ∀ k, PySem.W.notFirst K (cmA K k) tv = true := by
  rcases h with rfl | ⟨b, rfl⟩ | ⟨s, rfl⟩ | ⟨p, xs, rfl, h⟩
  · exact ⟨_, .base .non, ki_NoneType_Saying T, fun k => (cm_ T k).fn⟩
  · exact ⟨_, .base (.bl _), ki_bool_Saying T, fun k => (cm_ T k).fb⟩
  · exact ⟨_, .base (.str _), ki_str_Saying T, fun k => (cm_ T k).fs⟩
  · exact ⟨_, .base (.tup h), ki_tuple_Saying T, fun k => (cm_ T k).ft⟩
theorem con_word (T : Tx K mg) (h : IsC K H x k ts) (q : Q (.str (wdS k)) H) : G.ConK K "WORD" (.ref x) H Q := by
  obtain ⟨u, c⟩ := (cm_ T k).con
  obtain ⟨as, l, o, t⟩ := h
  by_cases nb : k = .between
  · subst nb
    obtain ⟨a, b, c', s, u', z, rfl, rfl, _⟩ := t.three l
    obtain ⟨dx, fs, e, l⟩ := lk_n (m := "WORD") o (by decide +kernel) (by decide +kernel) (by decide +kernel) (by decide +kernel) (by decide +kernel)
    exact ⟨x, _, dx, fs, _, u, rfl, e, (cm_ T .between).cl, c, l, q⟩
  · have l2 : as.length = 2 := by rw [l]; cases k <;> first | rfl | exact (nb rfl).elim
    obtain ⟨a, b, s, u', rfl, rfl, _⟩ := t.two l2
    rw [flds2 nb] at o
    obtain ⟨dx, fs, e, l⟩ := lk_m (m := "WORD") o (by decide +kernel) (by decide +kernel) (by decide +kernel) (by decide +kernel)
    exact ⟨x, _, dx, fs, _, u, rfl, e, (cm_ T k).cl, c, l, q⟩
/-- the texts and the things of two comparisons -/
theorem eq_tms (T : Tx K mg) : ∀ {as bs : List Addr} {ts us : List Tm} {R : Bool → Hp → Prop}, TmL K H as ts → TmL K H bs us → as.length = bs.length → R (decide (ts = us)) H →
    G.StepsW (G.rCmpP K (cmpInfo .Eq).2.1 (a_Term_eq K) (sp_Tmeq K) E0) (fun _ => True) ((as.map V.ref).zip (bs.map V.ref)) H R
  | [], [], [], [], _, _, _, _, r => ⟨trivial, by simpa using r⟩
  | a :: as, b :: bs, s :: ts, u :: us, R, ⟨h1, r1⟩, ⟨h2, r2⟩, l, r => by
    refine ⟨trivial, ?_⟩
    have l' : as.length = bs.length := by simpa using l
    by_cases e : a = b
    · subst e
      have su : s = u := by
        obtain ⟨dx, e1⟩ := h1
        obtain ⟨dy, e2⟩ := h2
        rw [e1] at e2
        have := Option.some.inj e2
        injection this with c1 c2 c3
        injection c3 with c4 c5
        injection c4 with c6 c7
        injection c7 with c8
        have ha : s.1 = u.1 := tmA_inj T c1
        exact Prod.ext ha c8
      subst su
      exact .inl ⟨a, rfl, rfl, eq_tms T r1 r2 l' (by
        have : (s :: ts = s :: us) = (ts = us) := by simp
        simpa [this] using r)⟩
    · refine .inr ⟨⟨a, rfl, fun z => e (by injection z with z; exact z.symm)⟩, eq_mm T h1 h2 ⟨_, rfl, ?_⟩⟩
      have se : (s = u) ↔ (s.1 = u.1 ∧ s.2 = u.2) := ⟨fun e => by rw [e]; exact ⟨rfl, rfl⟩, fun e => Prod.ext e.1 e.2⟩
      by_cases e2 : s.1 = u.1 ∧ s.2 = u.2
      · rw [if_pos (decide_eq_true e2)]
        have := se.mpr e2
        subst this
        exact eq_tms T r1 r2 l' (by simpa using r)
      · rw [if_neg (by simpa using e2)]
        have ne : s ≠ u := fun z => e2 (se.mp z)
        exact ⟨trivial, by simpa [ne] using r⟩
theorem ok_Saying_eq (T : Tx K mg) : G.FnG P w K mg base CX0 6 (a_Saying_eq K) (G.fdOf K (a_Saying_eq K)) ["self", "other"] (sp_Seq K) := by
  refine G.ok_of (F_Saying_eq T) sc_Saying_eq (fun vs H Q E h => ?_) (fun cdv A outer s H vs Q E hr h => ?_)
  · obtain ⟨x, k, ts, v, rfl, _⟩ := h
    rfl
  · obtain ⟨x, k, ts, v, rfl, hx, h⟩ := h
    refine ⟨_, (pss_one (ps_ret (pe_and (pe_callB G.call_isiG (by rfl) (fr_isinstance T) boot_isinstance (pa_cons (pv 1) (pa_cons (G.pe_cl rfl (gl_Saying T)) pa_nil))) (pe_and (pe_cmpR (G.opOr (G.op_eqG hr.units) (G.op_eqTO (G.op_eqQ (X := G.in1X _) (ok_Term_eq T) (hr.in1.mono (by first | decide | omega)) (bi_Term_eq T) pass0) hr.units0)) (pe_con (pv 0) rfl) (pe_con (pv 1) rfl) (nomark _)) (pe_one (pe_cmpR (G.opOr (G.op_eqG hr.units) (G.op_eqTO (G.op_eqQ (X := G.in1X _) (ok_Term_eq T) (hr.in1.mono (by first | decide | omega)) (bi_Term_eq T) pass0) hr.units0)) (G.pe_or (G.pe_methP0 (pv 0) (ok_Paired_arguments T) (hr.mono (by first | decide | omega)) (bi_Paired_arguments T) .nil pass0 ) (G.pe_methP0 (pv 0) (ok_Between_arguments T) (hr.mono (by first | decide | omega)) (bi_Between_arguments T) .nil pass0 )) (G.pe_or (G.pe_methP0 (pv 1) (ok_Paired_arguments T) (hr.mono (by first | decide | omega)) (bi_Paired_arguments T) .nil pass0 ) (G.pe_methP0 (pv 1) (ok_Between_arguments T) (hr.mono (by first | decide | omega)) (bi_Between_arguments T) .nil pass0 )) (nomark _))))))), ?_⟩
    walk_at "start"
    walk_at "gos"
    rcases h with ⟨y, l, us, rfl, hy, q⟩ | ⟨no, q⟩
    · refine G.isi_cl (hy.ty T) (cm_ T l).kS ?_
      walk_at "gos"
      refine con_word T hx ?_
      walk_at "gos"
      refine con_word T hy ?_
      refine .inl (G.eq_ss ?_)
      rw [wdS_inj]
      by_cases e : k = l
      · subst e
        rw [decide_eq_true rfl]
        walk_at "gos"
        refine args_c (i := 0) T hx rfl fun p1 H1 as n1 k1 e1 l1 t1 => ?_
        refine args_c (i := 1) T (hy.kp k1) rfl fun p2 H2 bs n2 k2 e2 l2 t2 => ?_
        refine .inr ⟨p1, p2, _, _, rfl, rfl, .of (k2 _ _ e1), .of e2, by rw [List.length_map, List.length_map, l1, l2], eq_tms T (t1.kp k2) t2 (by rw [l1, l2]) ?_⟩
        have := q H2 (k1.trans k2)
        simpa using this
      · rw [decide_eq_false e]
        walk_at "gos"
        have := q H .refl
        simpa [e] using this
    · obtain ⟨tv, ty, kt, _⟩ := no.ty T
      refine G.isi_cl ty kt ?_
      walk_at "gos"
      exact q
end
end Lw

namespace Lw
open PySem PySem.Spec PyProof.Rows L2
/-! ### k39: the law's own defs: promises -/
section
variable {P : Program} {w : World} {K : PySem.W.Frag} {mg : Str → Option Value} {base : Heap} {H H' : Hp} {Q : VK} {E : XK} {p x y q a : Addr} {k : Wd} {ts : List Tm} {as : List Addr} {n t b : Int} {l : Addr} {m : Nat}
/-- pairs of a letter and a number -/
def TpL (H : Hp) : List Addr → List Tm → Prop
  | [], [] => True
  | a :: r, s :: q => H a = some (.tup [.str (ltr s.1), .int s.2]) ∧ TpL H r q
  | _, _ => False
theorem TpL.kp (e : G.Kp H H') : ∀ {as : List Addr} {ts : List Tm}, TpL H as ts → TpL H' as ts
  | [], [], _ => trivial
  | _ :: _, _ :: _, ⟨h, r⟩ => ⟨e _ _ h, r.kp e⟩
theorem TpL.md (e : G.Md p H H') : ∀ {as : List Addr} {ts : List Tm}, TpL H as ts → TpL H' as ts
  | [], [], _ => trivial
  | _ :: _, _ :: _, ⟨h, r⟩ => ⟨e.tup h, r.md e⟩
theorem TpL.len : ∀ {as : List Addr} {ts : List Tm}, TpL H as ts → as.length = ts.length
  | [], [], _ => rfl
  | _ :: _, _ :: _, ⟨_, r⟩ => by rw [List.length_cons, List.length_cons, r.len]
theorem TpL.get : ∀ {as : List Addr} {ts : List Tm} {i : Nat} {a : Addr} {s : Tm}, TpL H as ts → as[i]? = some a → ts[i]? = some s → H a = some (.tup [.str (ltr s.1), .int s.2])
  | _ :: _, _ :: _, 0, _, _, ⟨h, _⟩, e1, e2 => by cases e1; cases e2; exact h
  | _ :: _, _ :: _, i + 1, _, _, ⟨_, r⟩, e1, e2 => r.get (i := i) (by simpa using e1) (by simpa using e2)
/-- a comparison as it is told -/
def Tld (H : Hp) (q : Addr) (k : Wd) (ts : List Tm) : Prop := ∃ as, as.length = wide k ∧ H q = some (.tup (.str (wdS k) :: as.map V.ref)) ∧ TpL H as ts ∧ ∀ s ∈ ts, In12 s
theorem Tld.kp (e : G.Kp H H') (h : Tld H q k ts) : Tld H' q k ts := let ⟨as, l, h1, h2, h3⟩ := h; ⟨as, l, e _ _ h1, h2.kp e, h3⟩
theorem Tld.md (e : G.Md p H H') (h : Tld H q k ts) : Tld H' q k ts := let ⟨as, l, h1, h2, h3⟩ := h; ⟨as, l, e.tup h1, h2.md e, h3⟩
def sp_lholds : Sp := fun vs H Q _ => ∃ q k ts n t b, vs = [.ref q, .int n, .int t, .int b] ∧ Tld H q k ts ∧ 0 < b ∧ G.Bd 200 n ∧ G.Bd 200 t ∧ G.Bd 200 b ∧ ∀ H', G.Kp H H' → Q (.bl (hold k ts n t b)) H'
theorem lholds_t (h : Tld H q k ts) (b0 : 0 < b) (bn : G.Bd 200 n) (bt : G.Bd 200 t) (bb : G.Bd 200 b) (z : ∀ H', G.Kp H H' → Q (.bl (hold k ts n t b)) H') : sp_lholds [.ref q, .int n, .int t, .int b] H Q E := ⟨q, k, ts, n, t, b, rfl, h, b0, bn, bt, bb, z⟩
def sp_lreal (K : PySem.W.Frag) : Sp := fun vs H Q _ => ∃ q k ts, vs = [.ref q] ∧ Tld H q k ts ∧ ∀ x H', H x = none → G.Kp H H' → IsC K H' x k ts → Q (.ref x) H'
theorem lreal_t (h : Tld H q k ts) (z : ∀ x H', H x = none → G.Kp H H' → IsC K H' x k ts → Q (.ref x) H') : sp_lreal K [.ref q] H Q E := ⟨q, k, ts, rfl, h, z⟩
def sp_lcomp : Sp := fun vs H Q _ => ∃ p l m far, vs = [.ref p, .int far] ∧ PenL H p l m ∧ m < 800000 ∧ 1 ≤ far ∧ far ≤ 12 ∧ ∀ q H' k ts, G.Md p H H' → PenL H' p l (m + 9) → Tld H' q k ts → Q (.ref q) H'
def sp_lkept (K : PySem.W.Frag) : Sp := fun vs H Q _ => ∃ x q k ts, vs = [.ref x, .ref q] ∧ IsC K H x k ts ∧ Tld H q k ts ∧ ∀ H', G.Kp H H' → Q (.bl true) H'
def sp_lnear (K : PySem.W.Frag) (j : Nat) : Sp := fun vs H Q _ => ∃ p l m x q k ts, vs = [.ref p, .ref x, .ref q] ∧ PenL H p l m ∧ m < 800000 ∧ IsC K H x k ts ∧ Tld H q k ts ∧ ∀ H', G.Md p H H' → PenL H' p l (m + j) → Q (.bl true) H'
theorem lnear_t {j : Nat} (hp : PenL H p l m) (hn : m < 800000) (h1 : IsC K H x k ts) (h2 : Tld H q k ts) (z : ∀ H', G.Md p H H' → PenL H' p l (m + j) → Q (.bl true) H') : sp_lnear K j [.ref p, .ref x, .ref q] H Q E := ⟨p, l, m, x, q, k, ts, rfl, hp, hn, h1, h2, z⟩
theorem sl_1 {v : V} {xs : List V} (h : H q = some (.tup (v :: xs))) (z : ∀ y H', G.Kp H H' → H' y = some (.tup xs) → Q (.ref y) H') : rSlA K (.ref q) (some 1) none H Q :=
  G.sl_h h fun y H' k e => z y H' k (by
    have e2 : cutV (v :: xs) (some 1) none = xs := by
      have h1 : HT.sIx (xs.length + 1) 0 (some 1) = 1 := by
        have := HT.sIx_nat (xs.length + 1) 0 1
        rw [show min 1 (xs.length + 1) = 1 by omega] at this
        exact this
      rw [cutV, List.length_cons, h1, show HT.sIx (xs.length + 1) (xs.length + 1) none = xs.length + 1 from rfl]
      simp
    rw [e2] at e
    exact e)
theorem TpL.two (l : as.length = 2) (h : TpL H as ts) : ∃ a b s u, as = [a, b] ∧ ts = [s, u] ∧ H a = some (.tup [.str (ltr s.1), .int s.2]) ∧ H b = some (.tup [.str (ltr u.1), .int u.2]) := by
  match as, ts, l, h with
  | [a, b], [s, u], _, h => exact ⟨a, b, s, u, rfl, rfl, h.1, h.2.1⟩
theorem TpL.three (l : as.length = 3) (h : TpL H as ts) : ∃ a b c s u z, as = [a, b, c] ∧ ts = [s, u, z] ∧ H a = some (.tup [.str (ltr s.1), .int s.2]) ∧ H b = some (.tup [.str (ltr u.1), .int u.2]) ∧ H c = some (.tup [.str (ltr z.1), .int z.2]) := by
  match as, ts, l, h with
  | [a, b, c], [s, u, z], _, h => exact ⟨a, b, c, s, u, z, rfl, rfl, h.1, h.2.1, h.2.2.1⟩
theorem at_0 {v : V} {xs : List V} : atI (v :: xs) 0 = some v := by simp [atI, ixN]
end
end Lw

-- k39: the law's own defs
local macro_rules | `(tactic| walk_at "hp") => `(tactic| first
  | (refine Lw.Tld.kp (by assumption) ?_; walk_at "hp")
  | (refine Lw.Tld.md (by assumption) ?_; walk_at "hp"))

namespace Lw
open PySem PySem.Spec PyProof.Rows L2
section
variable {P : Program} {w : World} {K : PySem.W.Frag} {mg : Str → Option Value} {base : Heap}
theorem ok_law_holds (T : Tx K mg) : G.FnG P w K mg base CX0 3 (a_law_holds K) (G.fdOf K (a_law_holds K)) ["_law_told", "_law_n", "_law_top", "_law_bottom"] sp_lholds := by
  refine G.ok_of (F_law_holds T) sc_law_holds (fun vs H Q E h => ?_) (fun cdv A outer s H vs Q E hr h => ?_)
  · obtain ⟨q, k, ts, n, t, b, rfl, _⟩ := h
    rfl
  · obtain ⟨q, k, ts, n, t, b, rfl, ⟨as, la, hq, ht, b12⟩, b0, bn, bt, bb, z⟩ := h
    have ll := ht.len
    have l3 : as.length ≤ 3 := by rw [la]; cases k <;> decide
    refine ⟨_, (pss_cons (ps_setLc (i := 4) (own := [("_law_term_here", 5)]) (by rfl) sc_law_holds.nd rfl rfl (sw_true rfl rfl rfl (by decide +kernel)) (pi_tup (pe_slice sl_tupA (pv 0) (po_some pe_int) po_none)) (blkOk_by (N := ["_law_told", "_law_n", "_law_top", "_law_bottom", "_law_keys", "_law_term_here"]) (sc := defScope s_law_holds) (by decide +kernel)) (fun _ _ _ _ _ => (pg_name (i := 5) sc_law_holds.nd rfl (Or.inl rfl))) (fun _ _ _ _ _ => pts_nil) (fun _ _ _ _ _ => (G.pe_callG (ok_law_key T) (hr.mono (by first | decide | omega)) rfl (gl_law_key T) (F_law_key T).kp (bi_law_key T) .nil pass0 (pa_cons (pv 5) (pa_cons (pv 1) (pa_cons (pv 2) (pa_cons (pv 3) pa_nil)))))))
    (pss_cons (ps_if (pt_cmpR (G.op_eqG hr.units) (pe_ix ix_seq (pv 0) pe_int (fun _ _ => rfl)) pe_str (nomark _)) (pss_one (ps_ret (pe_chain G.op_ltG G.op_ltG pe_int (pe_op G.op_modG (pe_callTy G.call_intG (by rfl) (fr_int T) boot_int (pa_cons (pe_op G.op_subG (pe_ix ix_seq (pv 4) pe_int (fun _ _ => rfl)) (pe_ix ix_seq (pv 4) pe_int (fun _ _ => rfl))) pa_nil)) (pv 3)) (pe_op G.op_modG (pe_callTy G.call_intG (by rfl) (fr_int T) boot_int (pa_cons (pe_op G.op_subG (pe_ix ix_seq (pv 4) pe_int (fun _ _ => rfl)) (pe_ix ix_seq (pv 4) pe_int (fun _ _ => rfl))) pa_nil)) (pv 3))))) pss_nil)
    (pss_one (ps_ret (pe_ifExp (pt_cmpR (G.op_eqG hr.units) (pe_ix ix_seq (pv 0) pe_int (fun _ _ => rfl)) pe_str (nomark _)) (pe_cmpR (G.op_eqG hr.units) (pe_ix ix_seq (pv 4) pe_int (fun _ _ => rfl)) (pe_ix ix_seq (pv 4) pe_int (fun _ _ => rfl)) (nomark _)) (pe_cmpR G.op_ltG (pe_ix ix_seq (pv 4) pe_int (fun _ _ => rfl)) (pe_ix ix_seq (pv 4) pe_int (fun _ _ => rfl)) (nomark _))))))), ?_⟩
    walk_at "start"
    walk_at "gos"
    unfold iTup
    walk_at "gos"
    refine sl_1 hq fun y H1 k1 e1 => ⟨y, rfl, ⟨_, .of e1⟩, ?_⟩
    refine G.lc_map1 (σ0 := [some (.ref q), some (.int n), some (.int t), some (.int b), none, none]) (xs := as.map V.ref) (ys := inZ (ts.map (kyT n t b))) (.inr ⟨rfl, e1⟩) rfl (fun x => rfl) (by rw [List.length_map, List.length_map, List.length_map]; exact ll) (by rw [List.length_map]; omega) ?_ ?_
    · intro i v y H' R hv hy k2 hR
      rw [List.getElem?_map] at hv hy
      rw [List.getElem?_map] at hy
      cases ha : as[i]? with
      | none => rw [ha] at hv; cases hv
      | some a =>
        cases hs : ts[i]? with
        | none => rw [hs] at hy; cases hy
        | some s =>
          rw [ha] at hv
          rw [hs] at hy
          cases hv
          cases hy
          have it := (ht.kp (k1.trans k2)).get ha hs
          have bs := b12 s (List.mem_of_getElem? hs)
          have b2 : G.Bd 200 s.2 := (G.Bd.of_le (G.Bd.lit 12) (by have := bs.1; have := bs.2; omega)).mono (by decide +kernel)
          walk_at "gos"
          exact hR _ .refl
    intro D H2 nD eD k2
    have hq2 := (k1.trans k2) _ _ hq
    have kb : ∀ s, G.Bd 4000 (kyT n t b s) := fun s => bd_md b0 (bb.mono (by decide))
    have KK := k1.trans k2
    clear e1
    cases k with
    | at_ =>
      obtain ⟨a, c, s, u, rfl, rfl, _⟩ := ht.two la
      have ks := kb s
      have ku := kb u
      simp only [List.map_cons, List.map_nil, inZ, wdS] at hq2 eD
      walk_at "gos"
      refine ifdF (by decide +kernel) ?_
      walk_at "gos"
      refine ifdT rfl ?_
      walk_at "gos"
      exact z _ KK
    | below =>
      obtain ⟨a, c, s, u, rfl, rfl, _⟩ := ht.two la
      have ks := kb s
      have ku := kb u
      simp only [List.map_cons, List.map_nil, inZ, wdS] at hq2 eD
      walk_at "gos"
      refine ifdF (by decide +kernel) ?_
      walk_at "gos"
      refine ifdF (by decide +kernel) ?_
      walk_at "gos"
      exact z _ KK
    | between =>
      obtain ⟨a, c, d, s, u, v, rfl, rfl, _⟩ := ht.three la
      have ks := kb s
      have ku := kb u
      have kv := kb v
      simp only [List.map_cons, List.map_nil, inZ, wdS] at hq2 eD
      walk_at "gos"
      refine ifdT rfl ?_
      walk_at "gos"
      by_cases c1 : 0 < (kyT n t b u - kyT n t b s) % b
      · refine ifdT c1 ?_
        walk_at "gos"
        have e : hold .between [s, u, v] n t b = decide ((kyT n t b u - kyT n t b s) % b < (kyT n t b v - kyT n t b s) % b) := by
          show decide (_ ∧ _) = _
          simp [c1]
        rw [← e]
        exact z _ KK
      · refine ifdF c1 ?_
        have e : hold .between [s, u, v] n t b = false := by
          show decide (_ ∧ _) = _
          simp [c1]
        rw [← e]
        exact z _ KK
end
end Lw

namespace Lw
open PySem PySem.Spec PyProof.Rows L2
section
variable {P : Program} {w : World} {K : PySem.W.Frag} {mg : Str → Option Value} {base : Heap} {H : Hp} {Q : VK} {E : XK} {a b c : Addr} {s u z : Tm}
theorem TmL.snoc {x : Addr} {s : Tm} : ∀ {as : List Addr} {ts : List Tm}, TmL K H as ts → IsTm K H x s.1 s.2 → TmL K H (as ++ [x]) (ts ++ (some s).toList)
  | [], [], _, h => ⟨h, trivial⟩
  | _ :: _, _ :: _, ⟨h, r⟩, g => ⟨h, r.snoc g⟩
theorem mkc_At (h1 : IsTm K H a s.1 s.2) (h2 : IsTm K H b u.1 u.2) (i1 : In12 s) (i2 : In12 u) (q : ∀ x H', H x = none → G.Kp H H' → ObC K H' x .at_ (f2 a b) → Q (.ref x) H') : G.MakeK (He.ga K "At") (sp_Ainit K .at_) [] E [.ref a, .ref b] H Q :=
  G.st_mkK fun x dx H1 hn k hx => ⟨x, dx, a, b, s, u, rfl, hx, h1.kp k, h2.kp k, i1, i2, fun H' j e => ⟨rfl, q x H' hn (G.Kp.init hn k j) e⟩⟩
theorem mkc_Bl (h1 : IsTm K H a s.1 s.2) (h2 : IsTm K H b u.1 u.2) (i1 : In12 s) (i2 : In12 u) (q : ∀ x H', H x = none → G.Kp H H' → ObC K H' x .below (f2 a b) → Q (.ref x) H') : G.MakeK (He.ga K "Below") (sp_Ainit K .below) [] E [.ref a, .ref b] H Q :=
  G.st_mkK fun x dx H1 hn k hx => ⟨x, dx, a, b, s, u, rfl, hx, h1.kp k, h2.kp k, i1, i2, fun H' j e => ⟨rfl, q x H' hn (G.Kp.init hn k j) e⟩⟩
theorem mkc_Bw (h1 : IsTm K H a s.1 s.2) (h2 : IsTm K H b u.1 u.2) (h3 : IsTm K H c z.1 z.2) (i1 : In12 s) (i2 : In12 u) (i3 : In12 z) (q : ∀ x H', H x = none → G.Kp H H' → ObC K H' x .between (f3 a b c) → Q (.ref x) H') : G.MakeK (He.ga K "Between") (sp_Winit K) [] E [.ref a, .ref b, .ref c] H Q :=
  G.st_mkK fun x dx H1 hn k hx => ⟨x, dx, a, b, c, s, u, z, rfl, hx, h1.kp k, h2.kp k, h3.kp k, i1, i2, i3, fun H' j e => ⟨rfl, q x H' hn (G.Kp.init hn k j) e⟩⟩
theorem ok_law_real (T : Tx K mg) : G.FnG P w K mg base CX0 8 (a_law_real K) (G.fdOf K (a_law_real K)) ["_law_told"] (sp_lreal K) := by
  refine G.ok_of (F_law_real T) sc_law_real (fun vs H Q E h => ?_) (fun cdv A outer s H vs Q E hr h => ?_)
  · obtain ⟨q, k, ts, rfl, _⟩ := h
    rfl
  · obtain ⟨q, k, ts, rfl, ⟨as, la, hq, ht, b12⟩, z⟩ := h
    have ll := ht.len
    have l3 : as.length ≤ 3 := by rw [la]; cases k <;> decide
    refine ⟨_, (pss_cons (ps_setLc (i := 1) (own := [("_law_term_here", 2)]) (by rfl) sc_law_real.nd rfl rfl (sw_true rfl rfl rfl (by decide +kernel)) (pi_tup (pe_slice sl_tupA (pv 0) (po_some pe_int) po_none)) (blkOk_by (N := ["_law_told", "_law_terms", "_law_term_here"]) (sc := defScope s_law_real) (by decide +kernel)) (fun _ _ _ _ _ => (pg_name (i := 2) sc_law_real.nd rfl (Or.inl rfl))) (fun _ _ _ _ _ => pts_nil) (fun _ _ _ _ _ => (G.pe_callG (ok_law_real_term T) (hr.mono (by first | decide | omega)) rfl (gl_law_real_term T) (F_law_real_term T).kp (bi_law_real_term T) .nil pass0 (pa_cons (pv 2) pa_nil))))
    (pss_cons (ps_if (pt_cmpR (G.op_eqG hr.units) (pe_ix ix_seq (pv 0) pe_int (fun _ _ => rfl)) pe_str (nomark _)) (pss_one (ps_ret (G.pe_makeG (mk_Between T) (ok_Between_init T) (hr.mono (by first | decide | omega)) rfl (gl_Between T) (bi_Between_init T) .nil pass0 (pa_cons (pe_ix ix_seq (pv 1) pe_int (fun _ _ => rfl)) (pa_cons (pe_ix ix_seq (pv 1) pe_int (fun _ _ => rfl)) (pa_cons (pe_ix ix_seq (pv 1) pe_int (fun _ _ => rfl)) pa_nil)))))) pss_nil)
    (pss_one (ps_ret (pe_ifExp (pt_cmpR (G.op_eqG hr.units) (pe_ix ix_seq (pv 0) pe_int (fun _ _ => rfl)) pe_str (nomark _)) (G.pe_makeG (mk_At T) (ok_At_init T) (hr.mono (by first | decide | omega)) rfl (gl_At T) (bi_At_init T) .nil pass0 (pa_cons (pe_ix ix_seq (pv 1) pe_int (fun _ _ => rfl)) (pa_cons (pe_ix ix_seq (pv 1) pe_int (fun _ _ => rfl)) pa_nil))) (G.pe_makeG (mk_Below T) (ok_Below_init T) (hr.mono (by first | decide | omega)) rfl (gl_Below T) (bi_Below_init T) .nil pass0 (pa_cons (pe_ix ix_seq (pv 1) pe_int (fun _ _ => rfl)) (pa_cons (pe_ix ix_seq (pv 1) pe_int (fun _ _ => rfl)) pa_nil)))))))), ?_⟩
    walk_at "start"
    walk_at "gos"
    unfold iTup
    walk_at "gos"
    refine sl_1 hq fun y H1 k1 e1 => ⟨y, rfl, ⟨_, .of e1⟩, ?_⟩
    have ht1 := ht.kp k1
    have hq1 := k1 _ _ hq
    refine G.lc_seqG (σ0 := [some (.ref q), none, none]) (xs := as.map V.ref) (.inr ⟨rfl, e1⟩) (fun D i H' => H1 D = none ∧ G.Kp H1 H' ∧ ∃ bs : List Addr, H' D = some (.lst (bs.map V.ref)) ∧ bs.length = i ∧ TmL K H' bs (ts.take i)) rfl (fun D H2 hn k eD => ⟨hn, k, [], eD, rfl, trivial⟩) (fun D i H' h => h.2.1) ?_ ?_
    · rintro D i x H' hx ⟨hn, k2, bs, eD, l, m⟩
      rw [List.getElem?_map] at hx
      cases ha : as[i]? with
      | none => rw [ha] at hx; cases hx
      | some a =>
        rw [ha] at hx
        cases hx
        have li := (List.getElem?_eq_some_iff.mp ha).1
        obtain ⟨s, hs⟩ : ∃ s, ts[i]? = some s := ⟨ts[i]'(by omega), List.getElem?_eq_getElem _⟩
        have it := (ht1.kp k2).get ha hs
        have i12 := b12 s (List.mem_of_getElem? hs)
        walk_at "gos"
        refine real_t it i12.1 i12.2 fun z H3 n3 k3 i3 => ?_
        walk_at "gos"
        refine G.st_app (k3 _ _ eD) (by rw [List.length_map, sizeLine_eq]; omega) fun H4 m4 e4 => ?_
        refine ⟨hn, (k2.trans k3).md_new m4 hn, bs ++ [z], by rw [List.map_append]; exact e4, by rw [List.length_append, List.length_singleton, l], ?_⟩
        rw [List.take_add_one, hs]
        exact (m.kp k3).md m4 |>.snoc (i3.md m4)
    rintro D H2 ⟨nD, k2, bs, eD, lb, m⟩
    rw [List.length_map] at lb
    have mt : TmL K H2 bs ts := by
      rw [List.length_map, ll, List.take_length] at m
      exact m
    have hq2 := k2 _ _ hq1
    have KK := k1.trans k2
    cases k with
    | at_ =>
      obtain ⟨a, c, s, u, rfl, rfl, h1, h2⟩ := mt.two (lb.trans la)
      simp only [List.map_cons, List.map_nil, wdS] at hq2 eD
      have i1 := b12 s (by simp)
      have i2 := b12 u (by simp)
      walk_at "gos"
      refine G.ix_t (.of hq2) at_0 ?_
      walk_at "gos"
      refine ifdF (by decide +kernel) ?_
      walk_at "gos"
      refine G.ix_t (.of hq2) at_0 ?_
      walk_at "gos"
      refine ifdT rfl ?_
      walk_at "gos"
      refine mkc_At h1 h2 i1 i2 fun x H3 n3 k3 o3 => ?_
      exact z x H3 ((k1.trans k2).back n3) (KK.trans k3) ⟨[a, c], rfl, o3, mt.kp k3⟩
    | below =>
      obtain ⟨a, c, s, u, rfl, rfl, h1, h2⟩ := mt.two (lb.trans la)
      simp only [List.map_cons, List.map_nil, wdS] at hq2 eD
      have i1 := b12 s (by simp)
      have i2 := b12 u (by simp)
      walk_at "gos"
      refine G.ix_t (.of hq2) at_0 ?_
      walk_at "gos"
      refine ifdF (by decide +kernel) ?_
      walk_at "gos"
      refine G.ix_t (.of hq2) at_0 ?_
      walk_at "gos"
      refine ifdF (by decide +kernel) ?_
      walk_at "gos"
      refine mkc_Bl h1 h2 i1 i2 fun x H3 n3 k3 o3 => ?_
      exact z x H3 ((k1.trans k2).back n3) (KK.trans k3) ⟨[a, c], rfl, o3, mt.kp k3⟩
    | between =>
      obtain ⟨a, c, d, s, u, v, rfl, rfl, h1, h2, h3⟩ := mt.three (lb.trans la)
      simp only [List.map_cons, List.map_nil, wdS] at hq2 eD
      have i1 := b12 s (by simp)
      have i2 := b12 u (by simp)
      have i3 := b12 v (by simp)
      walk_at "gos"
      refine G.ix_t (.of hq2) at_0 ?_
      walk_at "gos"
      refine ifdT rfl ?_
      walk_at "gos"
      refine mkc_Bw h1 h2 h3 i1 i2 i3 fun x H3 n3 k3 o3 => ?_
      exact z x H3 ((k1.trans k2).back n3) (KK.trans k3) ⟨[a, c, d], rfl, o3, mt.kp k3⟩
end
end Lw

namespace Lw
open PySem PySem.Spec PyProof.Rows L2
section
variable {P : Program} {w : World} {K : PySem.W.Frag} {mg : Str → Option Value} {base : Heap}
theorem TpL.snoc {H : Hp} {x : Addr} {s : Tm} : ∀ {as : List Addr} {ts : List Tm}, TpL H as ts → H x = some (.tup [.str (ltr s.1), .int s.2]) → TpL H (as ++ [x]) (ts ++ [s])
  | [], [], _, h => ⟨h, trivial⟩
  | _ :: _, _ :: _, ⟨h, r⟩, g => ⟨h, r.snoc g⟩
theorem TpL.set {H : Hp} {x : Addr} {s : Tm} : ∀ {as : List Addr} {ts : List Tm} (j : Nat), TpL H as ts → True → H x = some (.tup [.str (ltr s.1), .int s.2]) → TpL H (as.set j x) (ts.set j s)
  | [], [], _, _, _, _ => trivial
  | _ :: _, _ :: _, 0, ⟨_, r⟩, _, g => ⟨g, r⟩
  | _ :: _, _ :: _, j + 1, ⟨h, r⟩, _, g => ⟨h, r.set j trivial g⟩
theorem tC_ite {k : Wd} {σ : L2.St} {H : Hp} {Q : VK} (h : Q (.int (wide k : Nat)) H) : if k = .between then tC (.int 3) σ H Q else tC (.int 2) σ H Q := by
  cases k
  · rw [if_neg (by decide)]; exact h
  · rw [if_neg (by decide)]; exact h
  · rw [if_pos rfl]; exact h
theorem ok_law_compared (T : Tx K mg) : G.FnG P w K mg base CX0 6 (a_law_compared K) (G.fdOf K (a_law_compared K)) ["_law_pen_here", "_law_far"] sp_lcomp := by
  refine G.ok_of (F_law_compared T) sc_law_compared (fun vs H Q E h => ?_) (fun cdv A outer s H vs Q E hr h => ?_)
  · obtain ⟨p, l, m, far, rfl, _⟩ := h
    rfl
  · obtain ⟨p, l, m, far, rfl, hp, hm, f1, f12, z⟩ := h
    refine ⟨_, (pss_cons (ps_set (i := 2) sc_law_compared.nd rfl (Or.inl rfl) (G.pe_callG (ok_law_pick T) (hr.mono (by first | decide | omega)) rfl (gl_law_pick T) (F_law_pick T).kp (bi_law_pick T) .nil pass0 (pa_cons (pv 0) (pa_cons (pe_lst (pa_cons pe_str (pa_cons pe_str (pa_cons pe_str (pa_cons pe_str pa_nil))))) pa_nil))))
    (pss_cons (ps_setLc (i := 3) (own := [("_law_k", 4)]) (by rfl) sc_law_compared.nd rfl rfl (sw_true rfl rfl rfl (by decide +kernel)) (pi_range1 rfl (fr_range T) (pa_cons (pe_ifExp (pt_cmpR (G.op_eqG hr.units) (pv 2) pe_str (nomark _)) pe_int pe_int) pa_nil)) (blkOk_by (N := ["_law_pen_here", "_law_far", "_law_word", "_law_terms", "_law_k"]) (sc := defScope s_law_compared) (by decide +kernel)) (fun _ _ _ _ _ => (pg_name (i := 4) sc_law_compared.nd rfl (Or.inl rfl))) (fun _ _ _ _ _ => pts_nil) (fun _ _ _ _ _ => (G.pe_callG (ok_law_term T) (hr.mono (by first | decide | omega)) rfl (gl_law_term T) (F_law_term T).kp (bi_law_term T) .nil pass0 (pa_cons (pv 0) (pa_cons (pv 1) pa_nil)))))
    (pss_cons (ps_if (pt_cmpR (G.op_eqG hr.units) (G.pe_callG (ok_law_draw T) (hr.mono (by first | decide | omega)) rfl (gl_law_draw T) (F_law_draw T).kp (bi_law_draw T) .nil pass0 (pa_cons (pv 0) (pa_cons pe_int pa_nil))) pe_int (nomark _)) (pss_one (ps_asg (pe_ix ix_seq (pv 3) pe_int (fun _ _ => rfl)) (pg_sub (pv 3) (G.pe_callG (ok_law_draw T) (hr.mono (by first | decide | omega)) rfl (gl_law_draw T) (F_law_draw T).kp (bi_law_draw T) .nil pass0 (pa_cons (pv 0) (pa_cons (pe_callB G.call_lenG (by rfl) (fr_len T) PySem.boot_len (pa_cons (pv 3) pa_nil)) pa_nil))) set_list))) pss_nil)
    (pss_one (ps_ret (pe_callTy G.call_tupG (by rfl) (fr_tuple T) boot_tuple (pa_cons (pe_op G.op_addG (pe_lst (pa_cons (pv 2) pa_nil)) (pv 3)) pa_nil))))))), ?_⟩
    walk_at "start"
    walk_at "gos"
    rename_i l0 H1 n1 k1 e1 v H2 hv m2 p2
    obtain ⟨k, rfl⟩ : ∃ k, v = .str (wdS k) := by
      simp only [List.mem_cons, List.not_mem_nil, or_false] at hv
      rcases hv with rfl | rfl | rfl | rfl
      · exact ⟨.at_, rfl⟩
      · exact ⟨.below, rfl⟩
      · exact ⟨.between, rfl⟩
      · exact ⟨.between, rfl⟩
    obtain ⟨ys, hys⟩ := hp.is
    have M2 : G.Md p H H2 := (G.Md.of_kp hys k1).trans m2
    refine G.eq_ss ?_
    have wd : ∀ (A B : Prop), (if decide (wdS k = Str.ofString "between") = true then A else B) = (if k = .between then A else B) := fun A B => by
      have := wdS_inj k .between
      rw [show wdS .between = Str.ofString "between" from rfl] at this
      rw [this]
      by_cases e : k = .between <;> simp [e]
    refine ⟨_, rfl, ?_⟩
    rw [wd]
    refine tC_ite ?_
    have w3 : wide k ≤ 3 := by cases k <;> decide
    have w2 : 2 ≤ wide k := by cases k <;> decide
    walk_at "gos"
    obtain ⟨y2, hy2⟩ := p2.is
    refine G.lc_rngG (σ0 := ?z0) (fun D j H' => ∃ (bs : List Addr) (us : List Tm), G.Md p H2 H' ∧ H2 D = none ∧ PenL H' p l (m + 1 + 2 * j) ∧ H' D = some (.lst (bs.map V.ref)) ∧ bs.length = j ∧ TpL H' bs us ∧ ∀ s ∈ us, In12 s) ?e ?h0 ?hs ?hd
    case e => (simp only [List.map_cons, List.map_nil, L2.wipe, List.set_cons_zero, List.set_cons_succ]; rfl)
    case h0 =>
      intro D H3 nD k3 e3
      exact ⟨[], [], G.Md.of_kp hy2 k3, nD, p2.kp k3, e3, rfl, trivial, fun _ h => nomatch h⟩
    case hs =>
      rintro D j H3 hj ⟨bs, us, m3, nD, p3, eD, el, tp, i12⟩
      obtain ⟨d1, d2⟩ := p2.fresh nD
      have hj3 : j < 3 := by omega
      walk_at "gos"
      rename_i x H4 mv i m4 p4 e4 i1 i2
      have eD4 := m4.lst eD d1.symm
      refine G.st_app eD4 (by rw [List.length_map, sizeLine_eq]; omega) fun H5 m5 e5 => ?_
      refine ⟨bs ++ [x], us ++ [(mv, i)], (m3.trans m4).md_new m5 nD, nD, (p4.md m5 d1 d2).mono (by omega), by rw [List.map_append]; exact e5, by rw [List.length_append, List.length_singleton, el], ((tp.md m4).md m5).snoc (m5.tup e4), fun s hs => ?_⟩
      rcases List.mem_append.mp hs with h | h
      · exact i12 s h
      · rw [List.mem_singleton] at h
        subst h
        exact ⟨by show -12 ≤ i; omega, by show i ≤ 12; omega⟩
    rintro D H3 ⟨bs, us, m3, nD, p3, eD, el, tp, i12⟩
    obtain ⟨d1, d2⟩ := p2.fresh nD
    have el2 : bs.length = wide k := by rw [el]; omega
    have n3 : m + 1 + 2 * (↑(wide k) : Int).toNat ≤ m + 7 := by omega
    walk_at "gos"
    rename_i d H4 m4 p4 d0 d5
    have eD4 := m4.lst eD d1.symm
    have tp4 := tp.md m4
    by_cases c : d = 0
    · refine ifdT c ?_
      walk_at "gos"
      obtain ⟨b0, br, rfl⟩ : ∃ b0 br, bs = b0 :: br := by
        cases bs with
        | nil => simp at el2; omega
        | cons b r => exact ⟨b, r, rfl⟩
      refine G.ix_l (.of eD4) at_0 ?_
      walk_at "gos"
      have lz : (List.map V.ref (b0 :: br)).length = wide k := by rw [List.length_map]; exact el2
      rw [lz]
      refine draw_p p4 (by omega) (by omega) ((G.Bd.of_le (G.Bd.lit 3) (by omega)).mono (by decide)) fun e H5 m5 p5 e0 e9 => ?_
      obtain ⟨j, rfl⟩ : ∃ j : Nat, e = (j : Int) := ⟨e.toNat, by omega⟩
      have jl : j < wide k := by omega
      have eD5 := m5.lst eD4 d1.symm
      refine G.st_setL (m := j) (ys := ((b0 :: br).set j b0).map V.ref) eD5 (by rw [lz]; unfold ixN; rw [if_pos (by omega), if_pos (by omega)]; rfl) (by rw [List.map_set]) fun H6 m6 e6 => ?_
      obtain ⟨s0, ur, rfl⟩ : ∃ s0 ur, us = s0 :: ur := by
        cases us with
        | nil => exact tp4.elim
        | cons s r => exact ⟨s, r, rfl⟩
      have M6 : G.Md p H H6 := (M2.trans (((m3.trans m4).trans m5).md_new m6 nD))
      have p6 := p5.md m6 d1 d2
      have tp6 := ((tp4.md m5).md m6).set j trivial (m6.tup (m5.tup tp4.1))
      have i6 : ∀ s ∈ (s0 :: ur).set j s0, In12 s := fun s hs => by
        rcases List.mem_or_eq_of_mem_set hs with h | h
        · exact i12 s h
        · subst h
          exact i12 _ (List.mem_cons_self ..)
      have l6 : ((b0 :: br).set j b0).length = wide k := by rw [List.length_set]; exact el2
      walk_at "gos"
      rename_i lw H7 n7 k7 e7
      refine G.add_ll e7 (k7 _ _ e6) (by rw [List.length_map, List.length_singleton]; omega) fun y H8 n8 k8 e8 => ?_
      rw [List.singleton_append] at e8
      walk_at "gos"
      rename_i t9 H9 n9 k9 e9
      have KK := k7.trans (k8.trans k9)
      exact z t9 H9 k _ (M6.kp_r KK) ((p6.kp KK).mono (by omega)) ⟨_, l6, e9, tp6.kp KK, i6⟩
    · refine ifdF c ?_
      walk_at "gos"
      rename_i lw H7 n7 k7 e7
      refine G.add_ll e7 (k7 _ _ eD4) (by rw [List.length_map, List.length_singleton]; omega) fun y H8 n8 k8 e8 => ?_
      rw [List.singleton_append] at e8
      walk_at "gos"
      rename_i t9 H9 n9 k9 e9
      have KK := k7.trans (k8.trans k9)
      exact z t9 H9 k _ ((M2.trans (m3.trans m4)).kp_r KK) ((p4.kp KK).mono (by omega)) ⟨_, el2, e9, tp4.kp KK, i12⟩
end
end Lw

namespace Lw
open PySem PySem.Spec PyProof.Rows L2
section
variable {P : Program} {w : World} {K : PySem.W.Frag} {mg : Str → Option Value} {base : Heap}
theorem kyT_add (n t b : Int) (s : Tm) : kyT (n + b) t b s = kyT n t b s := by
  unfold kyT
  have e : ((n + b) * mvi s.1 + s.2) * t = (n * mvi s.1 + s.2) * t + b * (mvi s.1 * t) := by
    rw [Int.add_mul n b, Int.add_right_comm, Int.add_mul _ (b * mvi s.1), Int.mul_assoc b]
  rw [e, Int.add_mul_emod_self_left]
theorem hold_add (k : Wd) (ts : List Tm) (n t b : Int) : hold k ts (n + b) t b = hold k ts n t b := by
  unfold hold
  simp only [kyT_add]
section
variable {H : Hp} {Q : VK} {E : XK} {x f : Addr} {k : Wd} {ts : List Tm} {n t b : Int} {R : (Hp → Prop) → Prop}
theorem cal_c (T : Tx K mg) (h : IsC K H x k ts) (q : R fun H2 => ∃ dy gs, H2 x = some (.ins (cmA K k) dy gs)) : G.CalV K (a_Saying_call K) (.ref x) R := G.st_calV (cm_ T k).call (fn_Saying_call T) q
theorem IsC.ins (h : IsC K H x k ts) : ∃ dy gs, H x = some (.ins (cmA K k) dy gs) := let ⟨_, _, ⟨dx, _, _, e, _⟩, _⟩ := h; ⟨dx, _, e⟩
theorem call_c (h : IsC K H x k ts) (hf : IsR K H f t b) (t0 : 0 < t) (tb : t < b) (bn : G.Bd 300 n) (i : ∀ s ∈ ts, In12 s) (q : ∀ H', G.Kp H H' → Q (.bl (hold k ts n t b)) H') : sp_call K [.ref x, .int n, .ref f] H Q E := ⟨x, k, ts, n, f, t, b, rfl, h, hf, t0, tb, bn, i, q⟩
theorem Tld.i12 {q : Addr} (h : Tld H q k ts) : ∀ s ∈ ts, In12 s := let ⟨_, _, _, _, i⟩ := h; i
end
theorem ok_law_near_right (T : Tx K mg) : G.FnG P w K mg base CX0 12 (a_law_near_right K) (G.fdOf K (a_law_near_right K)) ["_law_pen_here", "_law_made", "_law_told"] (sp_lnear K 1) := by
  refine G.ok_of (F_law_near_right T) sc_law_near_right (fun vs H Q E h => ?_) (fun cdv A outer s H vs Q E hr h => ?_)
  · obtain ⟨p, l, m, x, q, k, ts, rfl, _⟩ := h
    rfl
  · obtain ⟨p, l, m, x, q, k, ts, rfl, hp, hm, hx, hq, z⟩ := h
    refine ⟨_, (pss_cons (ps_asg (G.pe_callG (ok_law_pick T) (hr.mono (by first | decide | omega)) rfl (gl_law_pick T) (F_law_pick T).kp (bi_law_pick T) .nil pass0 (pa_cons (pv 0) (pa_cons (pe_lst (pa_cons (pe_tup (pa_cons pe_int (pa_cons pe_int pa_nil))) (pa_cons (pe_tup (pa_cons pe_int (pa_cons pe_int pa_nil))) (pa_cons (pe_tup (pa_cons pe_int (pa_cons pe_int pa_nil))) (pa_cons (pe_tup (pa_cons pe_int (pa_cons pe_int pa_nil))) (pa_cons (pe_tup (pa_cons pe_int (pa_cons pe_int pa_nil))) (pa_cons (pe_tup (pa_cons pe_int (pa_cons pe_int pa_nil))) (pa_cons (pe_tup (pa_cons pe_int (pa_cons pe_int pa_nil))) (pa_cons (pe_tup (pa_cons pe_int (pa_cons pe_int pa_nil))) pa_nil))))))))) pa_nil))) (pg_tup (n := 2) (by rfl) (pgs_cons (pg_name (i := 3) sc_law_near_right.nd rfl (Or.inl rfl)) (pgs_cons (pg_name (i := 4) sc_law_near_right.nd rfl (Or.inl rfl)) pgs_nil))))
    (pss_cons (ps_set (i := 5) sc_law_near_right.nd rfl (Or.inl rfl) (G.pe_makeG (mk_Ratio T) (ok_Ratio_init T) (hr.mono (by first | decide | omega)) rfl (gl_Ratio T) (bi_Ratio_init T) .nil pass0 (pa_cons (pv 3) (pa_cons (pv 4) pa_nil))))
    (pss_cons (ps_for PassesOwn.never rfl (pi_range2 rfl (fr_range T) (pa_cons (pe_un G.un_negG pe_int) (pa_cons (pe_op G.op_addG (pv 4) pe_int) pa_nil))) (pg_name (i := 6) sc_law_near_right.nd rfl (Or.inl rfl)) (pss_cons (ps_set (i := 7) sc_law_near_right.nd rfl (Or.inl rfl) (G.pe_callG (ok_law_holds T) (hr.mono (by first | decide | omega)) rfl (gl_law_holds T) (F_law_holds T).kp (bi_law_holds T) .nil pass0 (pa_cons (pv 2) (pa_cons (pv 6) (pa_cons (pv 3) (pa_cons (pv 4) pa_nil))))))
    (pss_one (ps_if (pt_cmpR (G.op_neG hr.units) (pe_callB (G.call_reprG hr) (by rfl) (fr_repr T) boot_repr (pa_cons (pe_lst (pa_cons (G.pe_callVK (K := K) rfl (pv 1) (ok_Saying_call T) (hr.mono (by first | decide | omega)) (bi_Saying_call T) .nil pass0 (pa_cons (pv 6) (pa_cons (pv 5) pa_nil))) (pa_cons (G.pe_callVK (K := K) rfl (pv 1) (ok_Saying_call T) (hr.mono (by first | decide | omega)) (bi_Saying_call T) .nil pass0 (pa_cons (pe_op G.op_addG (pv 6) (pv 4)) (pa_cons (pv 5) pa_nil))) pa_nil))) pa_nil)) (pe_callB (G.call_reprG hr) (by rfl) (fr_repr T) boot_repr (pa_cons (pe_lst (pa_cons (pv 7) (pa_cons (pv 7) pa_nil))) pa_nil)) (nomark _)) (pss_one (ps_ret pe_bl)) pss_nil))))
    (pss_one (ps_ret pe_bl))))), ?_⟩
    walk_at "start"
    obtain ⟨ys, hys⟩ := hp.is
    walk_at "gos"
    rename_i q1 J1 n1 k1 e1 q2 J2 n2 k2 e2 q3 J3 n3 k3 e3 q4 J4 n4 k4 e4 q5 J5 n5 k5 e5 q6 J6 n6 k6 e6 q7 J7 n7 k7 e7 q8 J8 n8 k8 e8 ll J9 n9 k9 e9 v H1 hv m1 p1
    obtain ⟨y, t, b, rfl, ey, t0, tb, b19, cop⟩ : ∃ y t b, v = .ref y ∧ H1 y = some (.tup [.int t, .int b]) ∧ 0 < t ∧ t < b ∧ b ≤ 19 ∧ Int.gcd t b = 1 := by
      simp only [List.mem_cons, List.not_mem_nil, or_false] at hv
      rcases hv with rfl | rfl | rfl | rfl | rfl | rfl | rfl | rfl
      all_goals exact ⟨_, _, _, rfl, m1.tup (by walk_at "hp"), by decide, by decide, by decide, by decide⟩
    have KJ : G.Kp H J9 := by walk_at "kp"
    have M1 : G.Md p H H1 := (G.Md.of_kp hys KJ).trans m1
    have hx1 := hx.md M1
    have hq1 := hq.md M1
    have bt : G.Bd 100 t := (G.Bd.of_le (G.Bd.lit 19) (by omega)).mono (by decide)
    have bb : G.Bd 100 b := (G.Bd.of_le (G.Bd.lit 19) (by omega)).mono (by decide)
    have b0 : 0 < b := by omega
    clear hv n1 k1 e1 n2 k2 e2 n3 k3 e3 n4 k4 e4 n5 k5 e5 n6 k6 e6 n7 k7 e7 n8 k8 e8 n9 k9 e9 KJ m1 hx hq hp
    walk_at "gos"
    rename_i r H2 n2 k2 r2
    have hx2 := hx1.kp k2
    have hq2 := hq1.kp k2
    refine G.for_rng (fun i σ H' => ∃ v6 v7, σ = [some (.ref p), some (.ref x), some (.ref q), some (.int t), some (.int b), some (.ref r), v6, v7] ∧ G.Kp H2 H') ⟨_, _, rfl, .refl⟩ ?_ ?_
    · rintro i σ H3 hi ⟨v6, v7, rfl, k3⟩
      have hi3 : i < 23 := by omega
      have hx3 := hx2.kp k3
      have hq3 := hq2.kp k3
      have r3 := r2.kp k3
      have bn : G.Bd 20 (-2 + (i : Int)) := (G.Bd.of_le (G.Bd.lit 30) (by omega)).mono (by decide)
      have bn2 : G.Bd 20 (-2 + (i : Int) + b) := (G.Bd.of_le (G.Bd.lit 60) (by omega)).mono (by decide)
      clear hx1 hq1 hx2 hq2 r2 ey
      walk_at "gos"
      refine lholds_t hq3 b0 (bn.mono (by decide)) (bt.mono (by decide)) (bb.mono (by decide)) fun H4 k4 => ?_
      have hx4 := hx3.kp k4
      have r4 := r3.kp k4
      walk_at "gos"
      refine G.st_callV ?_
      walk_at "gos"
      refine cal_c T hx4 ?_
      walk_at "gos"
      refine ⟨hx4.ins, call_c hx4 r4 t0 tb (bn.mono (by decide)) hq3.i12 fun H5 k5 => ?_⟩
      have hx5 := hx4.kp k5
      have r5 := r4.kp k5
      walk_at "gos"
      refine G.st_callV ?_
      walk_at "gos"
      refine cal_c T hx5 ?_
      walk_at "gos"
      refine ⟨hx5.ins, call_c hx5 r5 t0 tb (bn2.mono (by decide)) hq3.i12 fun H6 k6 => ?_⟩
      rw [hold_add]
      walk_at "gos"
      rename_i l7 H7 n7 k7 e7
      refine G.repr_l2 (SqL.of e7) ?_
      walk_at "gos"
      rename_i l8 H8 n8 k8 e8
      refine G.repr_l2 (SqL.of e8) ?_
      walk_at "gos"
      rw [decide_eq_true rfl]
      walk_at "gos"
      exact ⟨_, _, rfl, k3.trans (k4.trans (k5.trans (k6.trans (k7.trans k8))))⟩
    · rintro σ H3 ⟨v6, v7, rfl, k3⟩
      walk_at "gos"
      have K23 := k2.trans k3
      obtain ⟨y1, hy1⟩ := p1.is
      exact z _ (M1.trans (G.Md.of_kp hy1 K23)) (p1.kp K23)
theorem ok_law_far_right (T : Tx K mg) : G.FnG P w K mg base CX0 12 (a_law_far_right K) (G.fdOf K (a_law_far_right K)) ["_law_pen_here", "_law_made", "_law_told"] (sp_lnear K 24) := by
  refine G.ok_of (F_law_far_right T) sc_law_far_right (fun vs H Q E h => ?_) (fun cdv A outer s H vs Q E hr h => ?_)
  · obtain ⟨p, l, m, x, q, k, ts, rfl, _⟩ := h
    rfl
  · obtain ⟨p, l, m, x, q, k, ts, rfl, hp, hm, hx, hq, z⟩ := h
    refine ⟨_, (pss_cons (ps_for PassesOwn.never rfl (pi_range1 rfl (fr_range T) (pa_cons pe_int pa_nil)) (pg_name (i := 3) sc_law_far_right.nd rfl (Or.inl rfl)) (pss_cons (ps_asg (G.pe_callG (ok_law_fraction T) (hr.mono (by first | decide | omega)) rfl (gl_law_fraction T) (F_law_fraction T).kp (bi_law_fraction T) .nil pass0 (pa_cons (pv 0) pa_nil)) (pg_tup (n := 2) (by rfl) (pgs_cons (pg_name (i := 4) sc_law_far_right.nd rfl (Or.inl rfl)) (pgs_cons (pg_name (i := 5) sc_law_far_right.nd rfl (Or.inl rfl)) pgs_nil))))
    (pss_cons (ps_set (i := 6) sc_law_far_right.nd rfl (Or.inl rfl) (G.pe_callG (ok_law_number T) (hr.mono (by first | decide | omega)) rfl (gl_law_number T) (F_law_number T).kp (bi_law_number T) .nil pass0 (pa_cons (pv 0) pa_nil)))
    (pss_one (ps_if (pt_cmpR (G.op_neG hr.units) (pe_callB (G.call_reprG hr) (by rfl) (fr_repr T) boot_repr (pa_cons (G.pe_callVK (K := K) rfl (pv 1) (ok_Saying_call T) (hr.mono (by first | decide | omega)) (bi_Saying_call T) .nil pass0 (pa_cons (pv 6) (pa_cons (G.pe_makeG (mk_Ratio T) (ok_Ratio_init T) (hr.mono (by first | decide | omega)) rfl (gl_Ratio T) (bi_Ratio_init T) .nil pass0 (pa_cons (pv 4) (pa_cons (pv 5) pa_nil))) pa_nil))) pa_nil)) (pe_callB (G.call_reprG hr) (by rfl) (fr_repr T) boot_repr (pa_cons (G.pe_callG (ok_law_holds T) (hr.mono (by first | decide | omega)) rfl (gl_law_holds T) (F_law_holds T).kp (bi_law_holds T) .nil pass0 (pa_cons (pv 2) (pa_cons (pv 6) (pa_cons (pv 4) (pa_cons (pv 5) pa_nil))))) pa_nil)) (nomark _)) (pss_one (ps_ret pe_bl)) pss_nil)))))
    (pss_one (ps_ret pe_bl))), ?_⟩
    walk_at "start"
    walk_at "gos"
    refine G.for_rng (fun i σ H' => ∃ v3 v4 v5 v6, σ = [some (.ref p), some (.ref x), some (.ref q), v3, v4, v5, v6] ∧ G.Md p H H' ∧ PenL H' p l (m + 4 * i)) ?_ ?_ ?_
    · obtain ⟨ys, hys⟩ := hp.is
      exact ⟨_, _, _, _, rfl, G.Md.of_kp hys .refl, hp.mono (by omega)⟩
    · rintro i σ H1 hi ⟨v3, v4, v5, v6, rfl, m1, p1⟩
      have hi6 : i < 6 := hi
      have hx1 := hx.md m1
      have hq1 := hq.md m1
      walk_at "gos"
      rename_i y H2 t b m2 p2 e2 t0 tb cop bt bb n H3 m3 p3 bn
      have b0 : 0 < b := by omega
      have hx3 := (hx1.md m2).md m3
      have hq3 := (hq1.md m2).md m3
      have m13 := (m1.trans m2).trans m3
      clear hx hq hx1 hq1 p1 p2 e2 m1 m2 m3
      walk_at "gos"
      refine G.st_callV ?_
      walk_at "gos"
      refine cal_c T hx3 ?_
      walk_at "gos"
      rename_i r H4 n4 k4 r4
      have hx4 := hx3.kp k4
      have hq4 := hq3.kp k4
      refine ⟨hx4.ins, call_c hx4 r4 t0 tb (bn.mono (by decide)) hq4.i12 fun H5 k5 => ?_⟩
      walk_at "gos"
      refine G.repr_b ?_
      walk_at "gos"
      refine lholds_t (hq4.kp k5) b0 (bn.mono (by decide)) (bt.mono (by decide)) (bb.mono (by decide)) fun H6 k6 => ?_
      walk_at "gos"
      refine G.repr_b ?_
      walk_at "gos"
      rw [decide_eq_true rfl]
      walk_at "gos"
      have K4 := k4.trans (k5.trans k6)
      obtain ⟨y3, hy3⟩ := p3.is
      exact ⟨_, _, _, _, rfl, m13.trans (G.Md.of_kp hy3 K4), (p3.kp K4).mono (by omega)⟩
    · rintro σ H1 ⟨v3, v4, v5, v6, rfl, m1, p1⟩
      walk_at "gos"
      exact z _ m1 (p1.mono (by omega))
end
end Lw

namespace Lw
open PySem PySem.Spec PyProof.Rows L2
section
variable {P : Program} {w : World} {K : PySem.W.Frag} {mg : Str → Option Value} {base : Heap} {H : Hp} {Q : VK} {x a b : Addr} {k : Wd}
theorem eq_tmsL (T : Tx K mg) {hold : Hp → Prop} : ∀ {as bs : List Addr} {ts : List Tm} {R : Bool → Hp → Prop}, TmL K H as ts → TmL K H bs ts → hold H → R true H →
    G.StepsW (G.rCmpP K (cmpInfo .Eq).2.1 (a_Term_eq K) (sp_Tmeq K) E0) hold ((as.map V.ref).zip (bs.map V.ref)) H R
  | [], [], [], _, _, _, h, r => ⟨h, r⟩
  | a :: as, b :: bs, s :: ts, R, ⟨h1, r1⟩, ⟨h2, r2⟩, h, r => by
    refine ⟨h, ?_⟩
    by_cases e : a = b
    · subst e
      exact .inl ⟨a, rfl, rfl, eq_tmsL T r1 r2 h r⟩
    · refine .inr ⟨⟨a, rfl, fun z => e (by injection z with z; exact z.symm)⟩, eq_mm T h1 h2 ⟨_, rfl, ?_⟩⟩
      rw [if_pos (decide_eq_true ⟨rfl, rfl⟩)]
      exact eq_tmsL T r1 r2 h r
  | [], _ :: _, [], _, _, h, _, _ => h.elim
  | [], _ :: _, _ :: _, _, h, _, _, _ => h.elim
  | _ :: _, [], [], _, h, _, _, _ => h.elim
  | _ :: _, [], _ :: _, _, _, h, _, _ => h.elim
theorem ne_tmsL (T : Tx K mg) {as bs : List Addr} {ts : List Tm} (h1 : TmL K H as ts) (h2 : TmL K H bs ts) (e1 : H a = some (.lst (as.map V.ref))) (e2 : H b = some (.lst (bs.map V.ref))) (l : as.length = bs.length) (q : Q (.bl false) H) :
    G.rEqLW false (G.rCmpP K (cmpInfo .Eq).2.1 (a_Term_eq K) (sp_Tmeq K) E0) (.ref a) (.ref b) H Q :=
  ⟨a, b, _, _, rfl, rfl, by rw [List.length_map, List.length_map, l], eq_tmsL T h1 h2 ⟨e1, e2⟩ q⟩
theorem one_self {r : R2} (e1 : H a = some (.lst [.ref x])) (e2 : H b = some (.lst [.ref x])) (q : Q (.bl true) H) : G.rEqLW true r (.ref a) (.ref b) H Q :=
  ⟨a, b, [.ref x], [.ref x], rfl, rfl, rfl, ⟨⟨e1, e2⟩, .inl ⟨x, rfl, rfl, ⟨⟨e1, e2⟩, q⟩⟩⟩⟩
theorem dpB : ∀ bs : List Bool, DpAll K H (bs.map V.bl) (bs.map PyData.bool)
  | [] => .nil
  | b :: r => .cons (.bl b) (dpB r)
theorem eqvB (bs : List Bool) : PyData.eqv (.list (bs.map PyData.bool)) (.list (bs.map PyData.bool)) = true := by
  have h : PyData.eqvAll (bs.map PyData.bool) (bs.map PyData.bool) = true := by
    induction bs with
    | nil => rfl
    | cons b r ih => simp [PyData.eqvAll, PyData.eqv] at ih ⊢; exact ih
  simpa [PyData.eqv] using h
theorem shpB (bs : List Bool) : SeqAt.shaped (.list (bs.map PyData.bool)) = true := by
  have h : PyData.canLayAll0 (bs.map PyData.bool) = true ∧ PyData.depthAll (bs.map PyData.bool) = 0 := by
    induction bs with
    | nil => exact ⟨rfl, rfl⟩
    | cons n r ih => exact ⟨by simp [PyData.canLayAll0, PyData.canLay0, ih.1], by simp [PyData.depthAll, PyData.depth, ih.2]⟩
  simp [SeqAt.shaped, PyData.canLay0, PyData.depth, h.1, h.2]
theorem eq_bs (bs : List Bool) (h1 : H a = some (.lst (bs.map V.bl))) (h2 : H b = some (.lst (bs.map V.bl))) (z : Q (.bl true) H) : G.rEqG K (.ref a) (.ref b) H Q :=
  G.eq_dd (.lst (.of h1) (dpB bs)) (.lst (.of h2) (dpB bs)) (shpB bs) (shpB bs) (by rw [eqvB]; exact z)
theorem prop_deep (T : Tx K mg) {fs : List (Str × V)} (h : ObC K H x k fs) (q : Q (.int 1) H) : G.PropK K "deep" (a_Saying_deep K) (.ref x) H (sp_deep K [.ref x] H Q E0) :=
  let ⟨dx, _, _, e, _⟩ := h
  let ⟨p, c⟩ := (cm_ T k).deep
  ⟨x, _, dx, _, p, rfl, e, (cm_ T k).cl, c, x, k, fs, rfl, h, q⟩
theorem ok_law_kept_right (T : Tx K mg) : G.FnG P w K mg base CX0 10 (a_law_kept_right K) (G.fdOf K (a_law_kept_right K)) ["_law_made", "_law_told"] (sp_lkept K) := by
  refine G.ok_of (F_law_kept_right T) sc_law_kept_right (fun vs H Q E h => ?_) (fun cdv A outer s H vs Q E hr h => ?_)
  · obtain ⟨x, q, k, ts, rfl, _⟩ := h
    rfl
  · obtain ⟨x, q, k, ts, rfl, hx, ⟨as, la, hq, ht, b12⟩, z⟩ := h
    have ll := ht.len
    have l3 : as.length ≤ 3 := by rw [la]; cases k <;> decide
    refine ⟨_, (pss_cons (ps_setLc (i := 2) (own := [("_law_term_here", 3)]) (by rfl) sc_law_kept_right.nd rfl rfl (sw_true rfl rfl rfl (by decide +kernel)) (pi_tup (pe_slice sl_tupA (pv 1) (po_some pe_int) po_none)) (blkOk_by (N := ["_law_made", "_law_told", "_law_terms", "_law_term_here", "_law_kinds", "_law_due"]) (sc := defScope s_law_kept_right) (by decide +kernel)) (fun _ _ _ _ _ => (pg_name (i := 3) sc_law_kept_right.nd rfl (Or.inl rfl))) (fun _ _ _ _ _ => pts_nil) (fun _ _ _ _ _ => (G.pe_callG (ok_law_real_term T) (hr.mono (by first | decide | omega)) rfl (gl_law_real_term T) (F_law_real_term T).kp (bi_law_real_term T) .nil pass0 (pa_cons (pv 3) pa_nil))))
    (pss_cons (ps_if (pt_cmpR (G.opOr (G.op_eqG hr.units) (G.op_eqLW (G.op_eqQ (X := G.in1X _) (ok_Saying_eq T) (hr.in1.mono (by first | decide | omega)) (bi_Saying_eq T) pass0) hr.units0)) (pe_ix ix_seq (pv 1) pe_int (fun _ _ => rfl)) pe_str (nomark _)) (pss_one (ps_if (pt_cmpR (G.opOr (G.op_neG hr.units) (G.op_neLW (G.op_eqQ (X := G.in1X _) (ok_Term_eq T) (hr.in1.mono (by first | decide | omega)) (bi_Term_eq T) pass0) hr.units0)) (pe_lst (pa_cons (pe_fld (pv 0) rfl) (pa_cons (pe_fld (pv 0) rfl) (pa_cons (pe_fld (pv 0) rfl) pa_nil)))) (pv 2) (nomark _)) (pss_one (ps_ret pe_bl)) pss_nil)) (pss_one (ps_if (pt_cmpR (G.opOr (G.op_neG hr.units) (G.op_neLW (G.op_eqQ (X := G.in1X _) (ok_Term_eq T) (hr.in1.mono (by first | decide | omega)) (bi_Term_eq T) pass0) hr.units0)) (pe_lst (pa_cons (pe_fld (pv 0) rfl) (pa_cons (pe_fld (pv 0) rfl) pa_nil))) (pv 2) (nomark _)) (pss_one (ps_ret pe_bl)) pss_nil)))
    (pss_cons (ps_set (i := 4) sc_law_kept_right.nd rfl (Or.inl rfl) (pe_lst (pa_cons (pe_callB G.call_isiG (by rfl) (fr_isinstance T) boot_isinstance (pa_cons (pv 0) (pa_cons (G.pe_cl rfl (gl_At T)) pa_nil))) (pa_cons (pe_callB G.call_isiG (by rfl) (fr_isinstance T) boot_isinstance (pa_cons (pv 0) (pa_cons (G.pe_cl rfl (gl_Below T)) pa_nil))) (pa_cons (pe_callB G.call_isiG (by rfl) (fr_isinstance T) boot_isinstance (pa_cons (pv 0) (pa_cons (G.pe_cl rfl (gl_Between T)) pa_nil))) (pa_cons (pe_callB G.call_isiG (by rfl) (fr_isinstance T) boot_isinstance (pa_cons (pv 0) (pa_cons (G.pe_cl rfl (gl_Paired T)) pa_nil))) pa_nil))))))
    (pss_cons (ps_set (i := 4) sc_law_kept_right.nd rfl (Or.inl rfl) (pe_op G.op_addG (pv 4) (pe_lst (pa_cons (pe_callB G.call_isiG (by rfl) (fr_isinstance T) boot_isinstance (pa_cons (pv 0) (pa_cons (G.pe_cl rfl (gl_Saying T)) pa_nil))) (pa_cons (pe_callB G.call_isiG (by rfl) (fr_isinstance T) boot_isinstance (pa_cons (pv 0) (pa_cons (G.pe_cl rfl (gl_Comparing T)) pa_nil))) pa_nil)))))
    (pss_cons (ps_set (i := 4) sc_law_kept_right.nd rfl (Or.inl rfl) (pe_op G.op_addG (pv 4) (pe_lst (pa_cons (pe_callB G.call_isiG (by rfl) (fr_isinstance T) boot_isinstance (pa_cons (pv 0) (pa_cons (G.pe_cl rfl (gl_Levelled T)) pa_nil))) (pa_cons (pe_callB G.call_isiG (by rfl) (fr_isinstance T) boot_isinstance (pa_cons (pv 0) (pa_cons (G.pe_cl rfl (gl_Joined T)) pa_nil))) pa_nil)))))
    (pss_cons (ps_set (i := 5) sc_law_kept_right.nd rfl (Or.inl rfl) (pe_lst (pa_cons (pe_cmpR (G.opOr (G.op_eqG hr.units) (G.op_eqLW (G.op_eqQ (X := G.in1X _) (ok_Saying_eq T) (hr.in1.mono (by first | decide | omega)) (bi_Saying_eq T) pass0) hr.units0)) (pe_ix ix_seq (pv 1) pe_int (fun _ _ => rfl)) pe_str (nomark _)) (pa_cons (pe_cmpR (G.opOr (G.op_eqG hr.units) (G.op_eqLW (G.op_eqQ (X := G.in1X _) (ok_Saying_eq T) (hr.in1.mono (by first | decide | omega)) (bi_Saying_eq T) pass0) hr.units0)) (pe_ix ix_seq (pv 1) pe_int (fun _ _ => rfl)) pe_str (nomark _)) (pa_cons (pe_cmpR (G.opOr (G.op_eqG hr.units) (G.op_eqLW (G.op_eqQ (X := G.in1X _) (ok_Saying_eq T) (hr.in1.mono (by first | decide | omega)) (bi_Saying_eq T) pass0) hr.units0)) (pe_ix ix_seq (pv 1) pe_int (fun _ _ => rfl)) pe_str (nomark _)) (pa_cons (pe_cmpR (G.opOr (G.op_neG hr.units) (G.op_neLW (G.op_eqQ (X := G.in1X _) (ok_Term_eq T) (hr.in1.mono (by first | decide | omega)) (bi_Term_eq T) pass0) hr.units0)) (pe_ix ix_seq (pv 1) pe_int (fun _ _ => rfl)) pe_str (nomark _)) (pa_cons pe_bl (pa_cons pe_bl (pa_cons pe_bl (pa_cons pe_bl pa_nil))))))))))
    (pss_one (ps_ret (pe_and (pe_cmpR (G.opOr (G.op_eqG hr.units) (G.op_eqLW (G.op_eqQ (X := G.in1X _) (ok_Saying_eq T) (hr.in1.mono (by first | decide | omega)) (bi_Saying_eq T) pass0) hr.units0)) (pv 4) (pv 5) (nomark _)) (pe_and (pe_cmpR (G.opOr (G.op_eqG hr.units) (G.op_eqLW (G.op_eqQ (X := G.in1X _) (ok_Saying_eq T) (hr.in1.mono (by first | decide | omega)) (bi_Saying_eq T) pass0) hr.units0)) (pe_listG (G.pgen_methP0 (E := E0) (pv 0) (okg_Comparing_parts T) (hr.mono (by first | decide | omega)).rm (bi_Comparing_parts T) .nil) G.passX0 (fun _ _ _ h => h.elim) (hr.mono (by first | decide | omega)).rm rfl (fr_list T) boot_list) (pe_lst (pa_cons (pv 0) pa_nil)) (nomark _)) (pe_one (pe_cmpR (G.opOr (G.op_eqG hr.units) (G.op_eqLW (G.op_eqQ (X := G.in1X _) (ok_Saying_eq T) (hr.in1.mono (by first | decide | omega)) (bi_Saying_eq T) pass0) hr.units0)) (G.pe_propP (pv 0) (ok_Saying_deep T) (hr.mono (by first | decide | omega)) (bi_Saying_deep T) pass0 rfl) pe_int (nomark _))))))))))))), ?_⟩
    walk_at "start"
    walk_at "gos"
    unfold iTup
    walk_at "gos"
    refine sl_1 hq fun y H1 k1 e1 => ⟨y, rfl, ⟨_, .of e1⟩, ?_⟩
    have ht1 := ht.kp k1
    have hq1 := k1 _ _ hq
    refine G.lc_seqG (σ0 := [some (.ref x), some (.ref q), none, none, none, none]) (xs := as.map V.ref) (.inr ⟨rfl, e1⟩) (fun D i H' => H1 D = none ∧ G.Kp H1 H' ∧ ∃ bs : List Addr, H' D = some (.lst (bs.map V.ref)) ∧ bs.length = i ∧ TmL K H' bs (ts.take i)) rfl (fun D H2 hn k eD => ⟨hn, k, [], eD, rfl, trivial⟩) (fun D i H' h => h.2.1) ?_ ?_
    · rintro D i x H' hx ⟨hn, k2, bs, eD, l, m⟩
      rw [List.getElem?_map] at hx
      cases ha : as[i]? with
      | none => rw [ha] at hx; cases hx
      | some a =>
        rw [ha] at hx
        cases hx
        have li := (List.getElem?_eq_some_iff.mp ha).1
        obtain ⟨s, hs⟩ : ∃ s, ts[i]? = some s := ⟨ts[i]'(by omega), List.getElem?_eq_getElem _⟩
        have it := (ht1.kp k2).get ha hs
        have i12 := b12 s (List.mem_of_getElem? hs)
        walk_at "gos"
        refine real_t it i12.1 i12.2 fun z H3 n3 k3 i3 => ?_
        walk_at "gos"
        refine G.st_app (k3 _ _ eD) (by rw [List.length_map, sizeLine_eq]; omega) fun H4 m4 e4 => ?_
        refine ⟨hn, (k2.trans k3).md_new m4 hn, bs ++ [z], by rw [List.map_append]; exact e4, by rw [List.length_append, List.length_singleton, l], ?_⟩
        rw [List.take_add_one, hs]
        exact (m.kp k3).md m4 |>.snoc (i3.md m4)
    rintro D H2 ⟨nD, k2, bs, eD, lb, m⟩
    rw [List.length_map] at lb
    have mt : TmL K H2 bs ts := by
      rw [List.length_map, ll, List.take_length] at m
      exact m
    have hq2 := k2 _ _ hq1
    have KK := k1.trans k2
    have hx2 := hx.kp KK
    clear hx hq hq1 ht ht1 m e1
    obtain ⟨cs, lc, ox, tx⟩ := hx2
    have hx3 : IsC K H2 x k ts := ⟨cs, lc, ox, tx⟩
    cases k with
    | between =>
      obtain ⟨a, c, d, s, u, v, rfl, rfl, h1, h2, h3⟩ := tx.three lc
      simp only [List.map_cons, List.map_nil, wdS] at hq2
      walk_at "gos"
      refine G.ix_t (.of hq2) at_0 ?_
      walk_at "gos"
      refine ifdT rfl ?_
      walk_at "gos"
      rename_i l3 H3 n3 k3 e3
      refine .inr (ne_tmsL T (as := [a, c, d]) (tx.kp k3) (mt.kp k3) e3 (k3 _ _ eD) (by rw [lb, ll]; rfl) ?_)
      walk_at "gos"
      have tyx := (hx3.kp k3).ty T
      refine G.isi_cl tyx (cm_ T _).kA ?_
      walk_at "gos"
      refine G.isi_cl tyx (cm_ T _).kB ?_
      walk_at "gos"
      refine G.isi_cl tyx (cm_ T _).kW ?_
      walk_at "gos"
      refine G.isi_cl tyx (cm_ T _).kP ?_
      walk_at "gos"
      rename_i l4 H4 n4 k4 e4
      have hx4 := hx3.kp (k3.trans k4)
      have ty4 := hx4.ty T
      refine G.isi_cl ty4 (cm_ T _).kS ?_
      walk_at "gos"
      refine G.isi_cl ty4 (cm_ T _).kC ?_
      walk_at "gos"
      rename_i l5 H5 n5 k5 e5 l6 H6 n6 k6 e6
      have K6 := k3.trans (k4.trans (k5.trans k6))
      have hx6 := hx3.kp K6
      have ty6 := hx6.ty T
      refine G.isi_cl ty6 (cm_ T _).kL ?_
      walk_at "gos"
      refine G.isi_cl ty6 (cm_ T _).kJ ?_
      walk_at "gos"
      rename_i l7 H7 n7 k7 e7
      refine G.add_ll (k7 _ _ e6) e7 (by simp) fun l8 H8 n8 k8 e8 => ?_
      have K8 := K6.trans (k7.trans k8)
      have hx8 := hx3.kp K8
      have hq8 := K8 _ _ hq2
      walk_at "gos"
      refine G.ix_t (.of hq8) at_0 ?_
      walk_at "gos"
      refine G.ix_t (.of hq8) at_0 ?_
      walk_at "gos"
      refine G.ix_t (.of hq8) at_0 ?_
      walk_at "gos"
      refine G.ix_t (.of hq8) at_0 ?_
      walk_at "gos"
      rename_i l9 H9 n9 k9 e9
      rw [show decide (Str.ofString "between" = Str.ofString "at") = false by decide +kernel, show decide (Str.ofString "between" = Str.ofString "below") = false by decide +kernel, show decide (Str.ofString "between" = Str.ofString "between") = true by decide +kernel] at e9
      refine .inl (eq_bs [false, false, true, false, true, true, false, false] (k9 _ _ e8) e9 ?_)
      walk_at "gos"
      have hx9 := hx8.kp k9
      refine G.st_listG (G.st_methGP ?_)
      walk_at "gos"
      refine rc_c T hx9 (cm_ T _).parts (by decide +kernel) (by decide +kernel) (by decide +kernel) (by decide +kernel) (by decide +kernel) (by decide +kernel) (by decide +kernel) ?_
      walk_at "gos"
      refine ⟨x, rfl, ?_⟩
      refine G.lstG fun lA HA nA kA eA => ?_
      walk_at "gos"
      rename_i lB HB nB kB eB
      refine .inr (one_self (kB _ _ eA) eB ?_)
      obtain ⟨_, _, oB, _⟩ := hx9.kp (kA.trans kB)
      walk_at "gos"
      refine prop_deep T oB ?_
      walk_at "gos"
      exact z _ (KK.trans (K8.trans (k9.trans (kA.trans kB))))
    | at_ =>
      obtain ⟨a, c, s, u, rfl, rfl, h1, h2⟩ := tx.two lc
      simp only [List.map_cons, List.map_nil, wdS] at hq2
      walk_at "gos"
      refine G.ix_t (.of hq2) at_0 ?_
      walk_at "gos"
      refine ifdF (by decide +kernel) ?_
      walk_at "gos"
      rename_i l3 H3 n3 k3 e3
      refine .inr (ne_tmsL T (as := [a, c]) (tx.kp k3) (mt.kp k3) e3 (k3 _ _ eD) (by rw [lb, ll]; rfl) ?_)
      walk_at "gos"
      have tyx := (hx3.kp k3).ty T
      refine G.isi_cl tyx (cm_ T _).kA ?_
      walk_at "gos"
      refine G.isi_cl tyx (cm_ T _).kB ?_
      walk_at "gos"
      refine G.isi_cl tyx (cm_ T _).kW ?_
      walk_at "gos"
      refine G.isi_cl tyx (cm_ T _).kP ?_
      walk_at "gos"
      rename_i l4 H4 n4 k4 e4
      have hx4 := hx3.kp (k3.trans k4)
      have ty4 := hx4.ty T
      refine G.isi_cl ty4 (cm_ T _).kS ?_
      walk_at "gos"
      refine G.isi_cl ty4 (cm_ T _).kC ?_
      walk_at "gos"
      rename_i l5 H5 n5 k5 e5 l6 H6 n6 k6 e6
      have K6 := k3.trans (k4.trans (k5.trans k6))
      have hx6 := hx3.kp K6
      have ty6 := hx6.ty T
      refine G.isi_cl ty6 (cm_ T _).kL ?_
      walk_at "gos"
      refine G.isi_cl ty6 (cm_ T _).kJ ?_
      walk_at "gos"
      rename_i l7 H7 n7 k7 e7
      refine G.add_ll (k7 _ _ e6) e7 (by simp) fun l8 H8 n8 k8 e8 => ?_
      have K8 := K6.trans (k7.trans k8)
      have hx8 := hx3.kp K8
      have hq8 := K8 _ _ hq2
      walk_at "gos"
      refine G.ix_t (.of hq8) at_0 ?_
      walk_at "gos"
      refine G.ix_t (.of hq8) at_0 ?_
      walk_at "gos"
      refine G.ix_t (.of hq8) at_0 ?_
      walk_at "gos"
      refine G.ix_t (.of hq8) at_0 ?_
      walk_at "gos"
      rename_i l9 H9 n9 k9 e9
      rw [show decide (Str.ofString "at" = Str.ofString "at") = true by decide +kernel, show decide (Str.ofString "at" = Str.ofString "below") = false by decide +kernel, show decide (Str.ofString "at" = Str.ofString "between") = false by decide +kernel] at e9
      refine .inl (eq_bs [true, false, false, true, true, true, false, false] (k9 _ _ e8) e9 ?_)
      walk_at "gos"
      have hx9 := hx8.kp k9
      refine G.st_listG (G.st_methGP ?_)
      walk_at "gos"
      refine rc_c T hx9 (cm_ T _).parts (by decide +kernel) (by decide +kernel) (by decide +kernel) (by decide +kernel) (by decide +kernel) (by decide +kernel) (by decide +kernel) ?_
      walk_at "gos"
      refine ⟨x, rfl, ?_⟩
      refine G.lstG fun lA HA nA kA eA => ?_
      walk_at "gos"
      rename_i lB HB nB kB eB
      refine .inr (one_self (kB _ _ eA) eB ?_)
      obtain ⟨_, _, oB, _⟩ := hx9.kp (kA.trans kB)
      walk_at "gos"
      refine prop_deep T oB ?_
      walk_at "gos"
      exact z _ (KK.trans (K8.trans (k9.trans (kA.trans kB))))
    | below =>
      obtain ⟨a, c, s, u, rfl, rfl, h1, h2⟩ := tx.two lc
      simp only [List.map_cons, List.map_nil, wdS] at hq2
      walk_at "gos"
      refine G.ix_t (.of hq2) at_0 ?_
      walk_at "gos"
      refine ifdF (by decide +kernel) ?_
      walk_at "gos"
      rename_i l3 H3 n3 k3 e3
      refine .inr (ne_tmsL T (as := [a, c]) (tx.kp k3) (mt.kp k3) e3 (k3 _ _ eD) (by rw [lb, ll]; rfl) ?_)
      walk_at "gos"
      have tyx := (hx3.kp k3).ty T
      refine G.isi_cl tyx (cm_ T _).kA ?_
      walk_at "gos"
      refine G.isi_cl tyx (cm_ T _).kB ?_
      walk_at "gos"
      refine G.isi_cl tyx (cm_ T _).kW ?_
      walk_at "gos"
      refine G.isi_cl tyx (cm_ T _).kP ?_
      walk_at "gos"
      rename_i l4 H4 n4 k4 e4
      have hx4 := hx3.kp (k3.trans k4)
      have ty4 := hx4.ty T
      refine G.isi_cl ty4 (cm_ T _).kS ?_
      walk_at "gos"
      refine G.isi_cl ty4 (cm_ T _).kC ?_
      walk_at "gos"
      rename_i l5 H5 n5 k5 e5 l6 H6 n6 k6 e6
      have K6 := k3.trans (k4.trans (k5.trans k6))
      have hx6 := hx3.kp K6
      have ty6 := hx6.ty T
      refine G.isi_cl ty6 (cm_ T _).kL ?_
      walk_at "gos"
      refine G.isi_cl ty6 (cm_ T _).kJ ?_
      walk_at "gos"
      rename_i l7 H7 n7 k7 e7
      refine G.add_ll (k7 _ _ e6) e7 (by simp) fun l8 H8 n8 k8 e8 => ?_
      have K8 := K6.trans (k7.trans k8)
      have hx8 := hx3.kp K8
      have hq8 := K8 _ _ hq2
      walk_at "gos"
      refine G.ix_t (.of hq8) at_0 ?_
      walk_at "gos"
      refine G.ix_t (.of hq8) at_0 ?_
      walk_at "gos"
      refine G.ix_t (.of hq8) at_0 ?_
      walk_at "gos"
      refine G.ix_t (.of hq8) at_0 ?_
      walk_at "gos"
      rename_i l9 H9 n9 k9 e9
      rw [show decide (Str.ofString "below" = Str.ofString "at") = false by decide +kernel, show decide (Str.ofString "below" = Str.ofString "below") = true by decide +kernel, show decide (Str.ofString "below" = Str.ofString "between") = false by decide +kernel] at e9
      refine .inl (eq_bs [false, true, false, true, true, true, false, false] (k9 _ _ e8) e9 ?_)
      walk_at "gos"
      have hx9 := hx8.kp k9
      refine G.st_listG (G.st_methGP ?_)
      walk_at "gos"
      refine rc_c T hx9 (cm_ T _).parts (by decide +kernel) (by decide +kernel) (by decide +kernel) (by decide +kernel) (by decide +kernel) (by decide +kernel) (by decide +kernel) ?_
      walk_at "gos"
      refine ⟨x, rfl, ?_⟩
      refine G.lstG fun lA HA nA kA eA => ?_
      walk_at "gos"
      rename_i lB HB nB kB eB
      refine .inr (one_self (kB _ _ eA) eB ?_)
      obtain ⟨_, _, oB, _⟩ := hx9.kp (kA.trans kB)
      walk_at "gos"
      refine prop_deep T oB ?_
      walk_at "gos"
      exact z _ (KK.trans (K8.trans (k9.trans (kA.trans kB))))
end
end Lw

namespace Lw
open PySem PySem.Spec PyProof.Rows L2
section
variable {P : Program} {w : World} {K : PySem.W.Frag} {mg : Str → Option Value} {base : Heap} {H H' : Hp} {Q : VK} {E : XK} {p x y a b q r : Addr} {k l : Wd} {ts us : List Tm} {v : V}
def tmD (s : Tm) : PyData := .tuple [.str (ltr s.1), .int s.2]
def toD (k : Wd) (ts : List Tm) : PyData := .tuple (.str (wdS k) :: ts.map tmD)
theorem ltr_inj : ∀ m n : Bool, decide (ltr m = ltr n) = decide (m = n) := by
  intro m n
  cases m <;> cases n <;> decide +kernel
theorem eqv_tm (s u : Tm) : PyData.eqv (tmD s) (tmD u) = decide (s = u) := by
  obtain ⟨m, i⟩ := s
  obtain ⟨n, j⟩ := u
  have h := ltr_inj m n
  have e : PyData.eqv (tmD (m, i)) (tmD (n, j)) = (decide (ltr m = ltr n) && decide (i = j)) := by
    unfold tmD
    simp [PyData.eqv, PyData.eqvAll, Bool.beq_eq_decide_eq]
  rw [e, h, ← Bool.decide_and]
  exact decide_eq_decide.mpr ⟨fun ⟨a, b⟩ => by rw [a, b], fun z => by injection z with a b; exact ⟨a, b⟩⟩
theorem eqv_tms : ∀ ts us : List Tm, PyData.eqvAll (ts.map tmD) (us.map tmD) = decide (ts = us)
  | [], [] => rfl
  | [], _ :: _ => by simp [PyData.eqvAll]
  | _ :: _, [] => by simp [PyData.eqvAll]
  | s :: ts, u :: us => by
    have h : PyData.eqvAll (tmD s :: ts.map tmD) (tmD u :: us.map tmD) = (PyData.eqv (tmD s) (tmD u) && PyData.eqvAll (ts.map tmD) (us.map tmD)) := by simp only [PyData.eqvAll]
    rw [List.map_cons, List.map_cons, h, eqv_tm, eqv_tms ts us, ← Bool.decide_and]
    exact decide_eq_decide.mpr ⟨fun ⟨a, b⟩ => by rw [a, b], fun z => by injection z with a b; exact ⟨a, b⟩⟩
theorem eqv_to : PyData.eqv (toD k ts) (toD l us) = decide (k = l ∧ ts = us) := by
  have h := wdS_inj k l
  have e : PyData.eqv (toD k ts) (toD l us) = (decide (wdS k = wdS l) && PyData.eqvAll (ts.map tmD) (us.map tmD)) := by
    unfold toD
    simp [PyData.eqv, PyData.eqvAll, Bool.beq_eq_decide_eq]
  rw [e, h, eqv_tms, ← Bool.decide_and]
theorem ltr_sk (m : Bool) : PyData.strOk (ltr m) = true := by cases m <;> decide +kernel
theorem wdS_ok (k : Wd) : PyData.strOk (wdS k) = true := by cases k <;> decide +kernel
theorem shp_to : SeqAt.shaped (toD k ts) = true := by
  have h : PyData.canLayAll0 (ts.map tmD) = true ∧ PyData.depthAll (ts.map tmD) ≤ 1 := by
    induction ts with
    | nil => exact ⟨rfl, by simp [PyData.depthAll]⟩
    | cons s r ih =>
      refine ⟨by simp [PyData.canLayAll0, PyData.canLay0, tmD, ih.1, ltr_sk], ?_⟩
      have := ih.2
      simp [PyData.depthAll, PyData.depth, tmD]
      omega
  have h2 := h.2
  have c : PyData.canLay0 (toD k ts) = true := by simp [toD, PyData.canLay0, PyData.canLayAll0, h.1, wdS_ok]
  have d : PyData.depth (toD k ts) ≤ 64 := by
    simp [toD, PyData.depth, PyData.depthAll]
    omega
  simp [SeqAt.shaped, c, d]
theorem TpL.dp : ∀ {as : List Addr} {ts : List Tm}, TpL H as ts → DpAll K H (as.map V.ref) (ts.map tmD)
  | [], [], _ => .nil
  | _ :: _, _ :: _, ⟨h, r⟩ => .cons (.tup (.of h) (.cons (.str _) (.cons (.int _) .nil))) r.dp
theorem Tld.dp (h : Tld H q k ts) : Dp K H (.ref q) (toD k ts) := let ⟨_, _, e, t, _⟩ := h; .tup (.of e) (.cons (.str _) t.dp)
theorem eq_told (h : Tld H q k ts) (g : Tld H r l us) (z : Q (.bl (decide (k = l ∧ ts = us))) H) : G.rEqG K (.ref q) (.ref r) H Q :=
  G.eq_dd h.dp g.dp shp_to shp_to (by rw [eqv_to]; exact z)
theorem eq_cc (T : Tx K mg) (h : IsC K H x k ts) (g : IsC K H y l us) (z : ∀ H', G.Kp H H' → Q (.bl (decide (k = l ∧ ts = us))) H') : G.rCmpP K (cmpInfo .Eq).2.1 (a_Saying_eq K) (sp_Seq K) E (.ref x) (.ref y) H Q :=
  let ⟨dx, gs, e⟩ := h.ins
  ⟨x, _, dx, gs, _, rfl, e, (cm_ T k).eq, g.ty T, (cm_ T k).nf l, x, k, ts, _, rfl, h, .inl ⟨y, l, us, rfl, g, z⟩⟩
theorem ne_cc (T : Tx K mg) (h : IsC K H x k ts) (g : IsC K H y l us) (z : ∀ H', G.Kp H H' → Q (.bl (!decide (k = l ∧ ts = us))) H') : G.rNeP K (a_Saying_eq K) (sp_Seq K) E (.ref x) (.ref y) H Q :=
  let ⟨dx, gs, e⟩ := h.ins
  ⟨x, _, dx, gs, _, rfl, e, (cm_ T k).ne, g.ty T, (cm_ T k).nf l, x, k, ts, _, rfl, h, .inl ⟨y, l, us, rfl, g, fun H' k' => ⟨_, rfl, z H' k'⟩⟩⟩
theorem eq_no (T : Tx K mg) (h : IsC K H x k ts) (n : NoS H v) (z : Q (.bl false) H) : G.rCmpP K (cmpInfo .Eq).2.1 (a_Saying_eq K) (sp_Seq K) E (.ref x) v H Q :=
  let ⟨dx, gs, e⟩ := h.ins
  let ⟨_, ty, _, nf⟩ := n.ty T
  ⟨x, _, dx, gs, _, rfl, e, (cm_ T k).eq, ty, nf k, x, k, ts, _, rfl, h, .inr ⟨n, z⟩⟩
theorem NoS.kp (e : G.Kp H H') (h : NoS H v) : NoS H' v := h.imp id (Or.imp id (Or.imp id fun ⟨p, xs, h1, h2⟩ => ⟨p, xs, h1, e _ _ h2⟩))
theorem mk2_At {s u : Tm} (h1 : IsTm K H a s.1 s.2) (h2 : IsTm K H b u.1 u.2) (i1 : In12 s) (i2 : In12 u) (q : ∀ x H', H x = none → G.Kp H H' → IsC K H' x .at_ [s, u] → Q (.ref x) H') : G.MakeK (He.ga K "At") (sp_Ainit K .at_) [] E [.ref a, .ref b] H Q :=
  mkc_At h1 h2 i1 i2 fun x H' n k o => q x H' n k ⟨[a, b], rfl, o, h1.kp k, h2.kp k, trivial⟩
theorem mk2_Bl {s u : Tm} (h1 : IsTm K H a s.1 s.2) (h2 : IsTm K H b u.1 u.2) (i1 : In12 s) (i2 : In12 u) (q : ∀ x H', H x = none → G.Kp H H' → IsC K H' x .below [s, u] → Q (.ref x) H') : G.MakeK (He.ga K "Below") (sp_Ainit K .below) [] E [.ref a, .ref b] H Q :=
  mkc_Bl h1 h2 i1 i2 fun x H' n k o => q x H' n k ⟨[a, b], rfl, o, h1.kp k, h2.kp k, trivial⟩
theorem ok_law (T : Tx K mg) : G.FnG P w K mg base CX0 14 (a_law K) (G.fdOf K (a_law K)) ["_law_script"] (sp_law K) := by
  refine G.ok_of (F_law T) sc_law (fun vs H Q E h => ?_) (fun cdv A outer s H vs Q E hr h => ?_)
  · obtain ⟨x, ns, rfl, _⟩ := h
    rfl
  · obtain ⟨x, ns, rfl, hx, ln, q⟩ := h
    refine ⟨_, (pss_cons (ps_set (i := 1) sc_law.nd rfl (Or.inl rfl) (G.pe_callG (ok_law_pen T) (hr.mono (by first | decide | omega)) rfl (gl_law_pen T) (F_law_pen T).kp (bi_law_pen T) .nil pass0 (pa_cons (pv 0) pa_nil)))
    (pss_cons (ps_for PassesOwn.never rfl (pi_range1 rfl (fr_range T) (pa_cons pe_int pa_nil)) (pg_name (i := 2) sc_law.nd rfl (Or.inl rfl)) (pss_cons (ps_par (i := 3) (j := 4) (by rfl) sc_law.nd rfl rfl (by decide) rfl rfl (pa_cons (G.pe_callG (ok_law_compared T) (hr.mono (by first | decide | omega)) rfl (gl_law_compared T) (F_law_compared T).kp (bi_law_compared T) .nil pass0 (pa_cons (pv 1) (pa_cons (G.pe_callG (ok_law_pick T) (hr.mono (by first | decide | omega)) rfl (gl_law_pick T) (F_law_pick T).kp (bi_law_pick T) .nil pass0 (pa_cons (pv 1) (pa_cons (pe_lst (pa_cons pe_int (pa_cons pe_int (pa_cons pe_int pa_nil)))) pa_nil))) pa_nil))) (pa_cons (G.pe_callG (ok_law_compared T) (hr.mono (by first | decide | omega)) rfl (gl_law_compared T) (F_law_compared T).kp (bi_law_compared T) .nil pass0 (pa_cons (pv 1) (pa_cons pe_int pa_nil))) pa_nil)) (by rfl))
    (pss_cons (ps_asg (pe_tup (pa_cons (G.pe_callG (ok_law_real T) (hr.mono (by first | decide | omega)) rfl (gl_law_real T) (F_law_real T).kp (bi_law_real T) .nil pass0 (pa_cons (pv 3) pa_nil)) (pa_cons (G.pe_callG (ok_law_real T) (hr.mono (by first | decide | omega)) rfl (gl_law_real T) (F_law_real T).kp (bi_law_real T) .nil pass0 (pa_cons (pv 4) pa_nil)) pa_nil))) (pg_tup (n := 2) (by rfl) (pgs_cons (pg_name (i := 5) sc_law.nd rfl (Or.inr rfl)) (pgs_cons (pg_name (i := 6) sc_law.nd rfl (Or.inl rfl)) pgs_nil))))
    (pss_cons (ps_if (PW.pt (pw_or (pt_not (pt_val (G.pe_callG (ok_law_kept_right T) (hr.mono (by first | decide | omega)) rfl (gl_law_kept_right T) (F_law_kept_right T).kp (bi_law_kept_right T) .nil pass0 (pa_cons (pv 5) (pa_cons (pv 3) pa_nil))))) (pw_or1 (pt_not (pt_val (G.pe_callG (ok_law_near_right T) (hr.mono (by first | decide | omega)) rfl (gl_law_near_right T) (F_law_near_right T).kp (bi_law_near_right T) .nil pass0 (pa_cons (pv 1) (pa_cons (pv 5) (pa_cons (pv 3) pa_nil))))))))) (pss_one (ps_ret pe_bl)) pss_nil)
    (pss_cons (ps_if (PW.pt (pw_or (pt_not (pt_val (G.pe_callG (ok_law_far_right T) (hr.mono (by first | decide | omega)) rfl (gl_law_far_right T) (F_law_far_right T).kp (bi_law_far_right T) .nil pass0 (pa_cons (pv 1) (pa_cons (pv 5) (pa_cons (pv 3) pa_nil)))))) (pw_or1 (pt_cmpR (G.opOr (G.op_neG hr.units) (G.op_neQ (ok_Saying_eq T) (hr.mono (by first | decide | omega)) (bi_Saying_eq T) pass0)) (pv 5) (G.pe_callG (ok_law_real T) (hr.mono (by first | decide | omega)) rfl (gl_law_real T) (F_law_real T).kp (bi_law_real T) .nil pass0 (pa_cons (pv 3) pa_nil)) (nomark _))))) (pss_one (ps_ret pe_bl)) pss_nil)
    (pss_one (ps_if (PW.pt (pw_or (pt_cmpR (G.opOr (G.op_neG hr.units) (G.op_neQ (ok_Saying_eq T) (hr.mono (by first | decide | omega)) (bi_Saying_eq T) pass0)) (pe_cmpR (G.opOr (G.op_eqG hr.units) (G.op_eqQ (ok_Saying_eq T) (hr.mono (by first | decide | omega)) (bi_Saying_eq T) pass0)) (pv 5) (pv 6) (nomark _)) (pe_cmpR (G.opOr (G.op_eqG hr.units) (G.op_eqQ (ok_Saying_eq T) (hr.mono (by first | decide | omega)) (bi_Saying_eq T) pass0)) (pv 3) (pv 4) (nomark _)) (nomark _)) (pw_or1 (pt_cmpR (G.opOr (G.op_neG hr.units) (G.op_neQ (ok_Saying_eq T) (hr.mono (by first | decide | omega)) (bi_Saying_eq T) pass0)) (pe_lc (own := [("_law_thing", 7)]) (by rfl) sc_law.nd (pi_list (pe_lst (pa_cons pe_non (pa_cons (pv 3) (pa_cons pe_str (pa_cons pe_bl pa_nil)))))) (blkOk_by (N := ["_law_script", "_law_pen_here", "_law_turn", "_law_told", "_law_rival", "_law_made", "_law_other", "_law_thing", "_law_some"]) (sc := defScope s_law) (by decide +kernel)) (fun _ _ _ _ _ => (pg_name (i := 7) sc_law.nd rfl (Or.inl rfl))) (fun _ _ _ _ _ => (pts_one (pt_cmpR (G.op_eqR (K := K) rfl (ok_Saying_eq T) (hr.mono (by first | decide | omega)) (bi_Saying_eq T) pass0) (pv 5) (pv 7) (nomark _)))) (fun _ _ _ _ _ => (pv 7))) (pe_lst pa_nil) (nomark _))))) (pss_one (ps_ret pe_bl)) pss_nil)))))))
    (pss_cons (ps_set (i := 8) sc_law.nd rfl (Or.inl rfl) (pe_lst (pa_cons (pe_cmpR (G.opOr (G.op_eqG hr.units) (G.op_eqQ (ok_Saying_eq T) (hr.mono (by first | decide | omega)) (bi_Saying_eq T) pass0)) (G.pe_makeG (mk_At T) (ok_At_init T) (hr.mono (by first | decide | omega)) rfl (gl_At T) (bi_At_init T) .nil pass0 (pa_cons (G.pe_makeG (mk_Note T) (ok_Term_init T) (hr.mono (by first | decide | omega)) rfl (gl_Note T) (bi_Term_init T) .nil pass0 (pa_cons pe_int pa_nil)) (pa_cons (G.pe_makeG (mk_Note T) (ok_Term_init T) (hr.mono (by first | decide | omega)) rfl (gl_Note T) (bi_Term_init T) .nil pass0 (pa_cons pe_int pa_nil)) pa_nil))) (G.pe_makeG (mk_At T) (ok_At_init T) (hr.mono (by first | decide | omega)) rfl (gl_At T) (bi_At_init T) .nil pass0 (pa_cons (G.pe_makeG (mk_Note T) (ok_Term_init T) (hr.mono (by first | decide | omega)) rfl (gl_Note T) (bi_Term_init T) .nil pass0 (pa_cons pe_int pa_nil)) (pa_cons (G.pe_makeG (mk_Note T) (ok_Term_init T) (hr.mono (by first | decide | omega)) rfl (gl_Note T) (bi_Term_init T) .nil pass0 (pa_cons pe_int pa_nil)) pa_nil))) (nomark _)) (pa_cons (pe_cmpR (G.opOr (G.op_eqG hr.units) (G.op_eqQ (ok_Saying_eq T) (hr.mono (by first | decide | omega)) (bi_Saying_eq T) pass0)) (G.pe_makeG (mk_At T) (ok_At_init T) (hr.mono (by first | decide | omega)) rfl (gl_At T) (bi_At_init T) .nil pass0 (pa_cons (G.pe_makeG (mk_Note T) (ok_Term_init T) (hr.mono (by first | decide | omega)) rfl (gl_Note T) (bi_Term_init T) .nil pass0 (pa_cons pe_int pa_nil)) (pa_cons (G.pe_makeG (mk_Note T) (ok_Term_init T) (hr.mono (by first | decide | omega)) rfl (gl_Note T) (bi_Term_init T) .nil pass0 (pa_cons pe_int pa_nil)) pa_nil))) (G.pe_makeG (mk_Below T) (ok_Below_init T) (hr.mono (by first | decide | omega)) rfl (gl_Below T) (bi_Below_init T) .nil pass0 (pa_cons (G.pe_makeG (mk_Note T) (ok_Term_init T) (hr.mono (by first | decide | omega)) rfl (gl_Note T) (bi_Term_init T) .nil pass0 (pa_cons pe_int pa_nil)) (pa_cons (G.pe_makeG (mk_Note T) (ok_Term_init T) (hr.mono (by first | decide | omega)) rfl (gl_Note T) (bi_Term_init T) .nil pass0 (pa_cons pe_int pa_nil)) pa_nil))) (nomark _)) pa_nil))))
    (pss_one (ps_ret (pe_and (pe_cmpR (G.opOr (G.op_eqG hr.units) (G.op_eqQ (ok_Saying_eq T) (hr.mono (by first | decide | omega)) (bi_Saying_eq T) pass0)) (pv 8) (pe_lst (pa_cons pe_bl (pa_cons pe_bl pa_nil))) (nomark _)) (pe_one (pe_cmpR (G.opOr (G.op_neG hr.units) (G.op_neQ (ok_Saying_eq T) (hr.mono (by first | decide | omega)) (bi_Saying_eq T) pass0)) (G.pe_makeG (mk_At T) (ok_At_init T) (hr.mono (by first | decide | omega)) rfl (gl_At T) (bi_At_init T) .nil pass0 (pa_cons (G.pe_makeG (mk_Note T) (ok_Term_init T) (hr.mono (by first | decide | omega)) rfl (gl_Note T) (bi_Term_init T) .nil pass0 (pa_cons pe_int pa_nil)) (pa_cons (G.pe_makeG (mk_Moving T) (ok_Term_init T) (hr.mono (by first | decide | omega)) rfl (gl_Moving T) (bi_Term_init T) .nil pass0 (pa_cons pe_int pa_nil)) pa_nil))) (G.pe_makeG (mk_At T) (ok_At_init T) (hr.mono (by first | decide | omega)) rfl (gl_At T) (bi_At_init T) .nil pass0 (pa_cons (G.pe_makeG (mk_Note T) (ok_Term_init T) (hr.mono (by first | decide | omega)) rfl (gl_Note T) (bi_Term_init T) .nil pass0 (pa_cons pe_int pa_nil)) (pa_cons (G.pe_makeG (mk_Note T) (ok_Term_init T) (hr.mono (by first | decide | omega)) rfl (gl_Note T) (bi_Term_init T) .nil pass0 (pa_cons pe_int pa_nil)) pa_nil))) (nomark _))))))))), ?_⟩
    walk_at "start"
    walk_at "gos"
    rename_i p l H1 _ k1 p1
    refine G.for_rng (fun i σ H' => ∃ v2 v3 v4 v5 v6 v7 v8, σ = [some (.ref x), some (.ref p), v2, v3, v4, v5, v6, v7, v8] ∧ PenL H' p l (60 * i)) ⟨_, _, _, _, _, _, _, rfl, p1⟩ ?_ ?_
    · rintro i σ H2 hi ⟨v2, v3, v4, v5, v6, v7, v8, rfl, p2⟩
      have hi5 : i < 9 := hi
      clear p1 k1
      walk_at "gos"
      rename_i t0 H3 n3 k3 e3 v H4 hv m4 p4
      obtain ⟨far, rfl, f1, f12⟩ : ∃ far : Int, v = .int far ∧ 1 ≤ far ∧ far ≤ 12 := by
        simp only [List.mem_cons, List.not_mem_nil, or_false] at hv
        rcases hv with rfl | rfl | rfl
        · exact ⟨1, rfl, by decide, by decide⟩
        · exact ⟨3, rfl, by decide, by decide⟩
        · exact ⟨12, rfl, by decide, by decide⟩
      refine ⟨p, l, _, far, rfl, p4, by omega, f1, f12, fun q1 H5 k ts m5 p5 td5 => ?_⟩
      walk_at "gos"
      refine ⟨p, l, _, 1, rfl, p5, by omega, by decide, by decide, fun q2 H6 k' us m6 p6 tr6 => ?_⟩
      have td6 := td5.md m6
      clear hv n3 k3 e3 m4 p4 p2 m5 p5 td5 m6
      walk_at "gos"
      refine lreal_t td6 fun x1 H7 n7 k7 i7 => ?_
      walk_at "gos"
      refine lreal_t (tr6.kp k7) fun x2 H8 n8 k8 i8 => ?_
      walk_at "gos"
      rename_i tp H9 n9 k9 e9
      have K79 := k7.trans (k8.trans k9)
      have td9 := td6.kp K79
      have tr9 := tr6.kp K79
      have i9 := i7.kp (k8.trans k9)
      have j9 := i8.kp k9
      have p9 := p6.kp K79
      clear td6 tr6 i7 i8 p6 K79 k7 k8 k9 e9 n7 n8 n9
      refine ⟨x1, q1, k, ts, rfl, i9, td9, fun HA kA => ?_⟩
      walk_at "gos"
      refine ifNT ?_
      walk_at "gos"
      refine lnear_t (p9.kp kA) (by omega) (i9.kp kA) (td9.kp kA) fun HB mB pB => ?_
      have iB := (i9.kp kA).md mB
      have jB := (j9.kp kA).md mB
      have tdB := (td9.kp kA).md mB
      have trB := (tr9.kp kA).md mB
      clear td9 tr9 i9 j9 p9
      walk_at "gos"
      refine ifNT ?_
      walk_at "gos"
      refine lnear_t pB (by omega) iB tdB fun HC mC pC => ?_
      have iC := iB.md mC
      have jC := jB.md mC
      have tdC := tdB.md mC
      have trC := trB.md mC
      clear tdB trB iB jB pB mB kA mC
      walk_at "gos"
      refine ifNT ?_
      walk_at "gos"
      refine lreal_t tdC fun x3 HD nD kD iD => ?_
      refine .inr (ne_cc T (iC.kp kD) iD fun HE kE => ?_)
      rw [show (!decide (k = k ∧ ts = ts)) = false by simp]
      have KE := kD.trans kE
      have iE := iC.kp KE
      have jE := jC.kp KE
      have tdE := tdC.kp KE
      have trE := trC.kp KE
      have pE := pC.kp KE
      clear tdC trC iC jC pC iD nD kD kE KE
      walk_at "gos"
      refine .inr (eq_cc T iE jE fun HF kF => ?_)
      walk_at "gos"
      refine .inl (eq_told (tdE.kp kF) (trE.kp kF) ?_)
      walk_at "gos"
      rw [decide_eq_true rfl]
      refine ifNT ?_
      walk_at "gos"
      rename_i l1 HG nG kG eG
      have KG := kF.trans kG
      have iG := iE.kp KG
      have tdG := tdE.kp KG
      have pG := pE.kp KG
      clear iE jE tdE trE pE kF nG kG KG
      refine G.lc_lstG (xs := [V.non, .ref q1, .str "at", .bl true]) (σ0 := ?z0) (fun D i H' => H' D = some (.lst []) ∧ G.Kp HG H') ?e ?h0 ?hl ?hs ?hd
      case e => (simp only [List.map_cons, List.map_nil, L2.wipe, List.set_cons_zero, List.set_cons_succ]; rfl)
      case h0 => exact fun D H2 hn k e => ⟨e, k⟩
      case hl => exact fun D j H' hj ⟨e, k⟩ => SqL.of (k _ _ eG)
      case hs =>
        rintro D j v H' hv ⟨e, k2⟩
        have od : NoS HG v := by
          have hv := List.mem_of_getElem? hv
          simp only [List.mem_cons, List.not_mem_nil, or_false] at hv
          rcases hv with rfl | rfl | rfl | rfl
          · exact .inl rfl
          · obtain ⟨_, _, h, _⟩ := tdG
            exact .inr (.inr (.inr ⟨_, _, rfl, h⟩))
          · exact .inr (.inr (.inl ⟨_, rfl⟩))
          · exact .inr (.inl ⟨_, rfl⟩)
        walk_at "gos"
        refine eq_no T (iG.kp k2) (od.kp k2) ?_
        walk_at "gos"
        exact ⟨e, k2⟩
      case hd =>
        rintro D H' ⟨e, k2⟩
        walk_at "gos"
        rename_i l2 HI nI kI eI
        refine .inl (ne_lists (ns := []) (ms := []) (kI _ _ e) eI ?_)
        walk_at "gos"
        exact ⟨_, _, _, _, _, _, _, rfl, (pG.kp (k2.trans kI)).mono (by omega)⟩
    · rintro σ H2 ⟨v2, v3, v4, v5, v6, v7, v8, rfl, p2⟩
      walk_at "gos"
      rename_i a1 A1 _ f1 g1 b1 B1 _ h1 m1
      refine mk2_At (s := (false, 1)) (u := (false, 2)) (g1.kp h1) m1 ⟨by decide, by decide⟩ ⟨by decide, by decide⟩ fun x1 C1 _ k1 c1 => ?_
      walk_at "gos"
      rename_i a2 A2 _ f2 g2 b2 B2 _ h2 m2
      refine mk2_At (s := (false, 2)) (u := (false, 1)) (g2.kp h2) m2 ⟨by decide, by decide⟩ ⟨by decide, by decide⟩ fun x2 C2 _ k2 c2 => ?_
      walk_at "gos"
      refine .inr (eq_cc T (((c1.kp f2).kp h2).kp k2) c2 fun D2 d2 => ?_)
      rw [show decide (Wd.at_ = Wd.at_ ∧ [((false, 1) : Tm), (false, 2)] = [((false, 2) : Tm), (false, 1)]) = false by decide]
      walk_at "gos"
      rename_i a3 A3 _ f3 g3 b3 B3 _ h3 m3
      refine mk2_At (s := (false, 1)) (u := (false, 2)) (g3.kp h3) m3 ⟨by decide, by decide⟩ ⟨by decide, by decide⟩ fun x3 C3 _ k3 c3 => ?_
      walk_at "gos"
      rename_i a4 A4 _ f4 g4 b4 B4 _ h4 m4
      refine mk2_Bl (s := (false, 1)) (u := (false, 2)) (g4.kp h4) m4 ⟨by decide, by decide⟩ ⟨by decide, by decide⟩ fun x4 C4 _ k4 c4 => ?_
      walk_at "gos"
      refine .inr (eq_cc T (((c3.kp f4).kp h4).kp k4) c4 fun D4 d4 => ?_)
      rw [show decide (Wd.at_ = Wd.below ∧ [((false, 1) : Tm), (false, 2)] = [((false, 1) : Tm), (false, 2)]) = false by decide]
      walk_at "gos"
      rename_i L5 E5 _ _ _ L6 E6 _ _ _
      rw [if_pos (by decide)]
      walk_at "gos"
      rename_i a5 A5 _ f5 g5 b5 B5 _ h5 m5
      refine mk2_At (s := (false, 0)) (u := (true, 0)) (g5.kp h5) m5 ⟨by decide, by decide⟩ ⟨by decide, by decide⟩ fun x5 C5 _ k5 c5 => ?_
      walk_at "gos"
      rename_i a6 A6 _ f6 g6 b6 B6 _ h6 m6
      refine mk2_At (s := (false, 0)) (u := (false, 0)) (g6.kp h6) m6 ⟨by decide, by decide⟩ ⟨by decide, by decide⟩ fun x6 C6 _ k6 c6 => ?_
      walk_at "gos"
      refine .inr (ne_cc T (((c5.kp f6).kp h6).kp k6) c6 fun D6 d6 => ?_)
      rw [show (!decide (Wd.at_ = Wd.at_ ∧ [((false, 0) : Tm), (true, 0)] = [((false, 0) : Tm), (false, 0)])) = true by decide]
      walk_at "gos"
      exact q _
end
end Lw

namespace Lw
open PySem PySem.Spec PyProof.Rows L2
theorem facts {P : Program} {w : World} {K : PySem.W.Frag} {h : Heap} {mg : Str → Option Value} {u : Addr} (X : K.In h) (N : h.Ns mainGlobals mg) (hfa : mg ("law" : Str) = some (.ref u)) (c : G.SaysX exs fns K) :
    ∃ fd : FuncData, (∀ (s : Shared) (v : Value), BindsTo s fd ⟨[v], []⟩ [("_law_script", v)]) ∧ ∀ base : Heap, K.In base → base.Ns mainGlobals mg → G.FnG P w K mg base CX0 14 u fd ["_law_script"] (sp_law K) := by
  have T : Tx K mg := G.Txt.mk' X N c
  have e := hfa.symm.trans (gl_law T)
  cases e
  have b := FunD.bindsA (ps := ["_law_script"]) (F_law T) fun _ _ _ _ _ _ us hl => match us, hl with | [_], _ => rfl
  exact ⟨_, fun s v => b s [v] rfl, fun base _ _ => ok_law T⟩
end Lw
open PySem PySem.W PySem.Calls PyProof.Rows
theorem PySem.Challenge.cw_anyfifth_k39_positions_compared_holds : PySem.Challenge.rw_anyfifth_k39_positions_compared.Holds := by
  w_on; o_law
  refine HandSHeadRun.head_any (r := OpenLaw.row PySem.Challenge.rw_anyfifth_k39_positions_compared) (q := view (OpenLaw.row PySem.Challenge.rw_anyfifth_k39_positions_compared).prog [71]) (H := Lw.hk) (ob := Lw.ob) (M := 20000) (loose := (("_wall" : Str) :: ("is_integer" : Str) :: ("is_between" : Str) :: ("FifthError" : Str) :: ("BadInput" : Str) :: ("Refused" : Str) :: ("BadRatio" : Str) :: ("BadFifth" : Str) :: ("BadNumber" : Str) :: ("BadTerm" : Str) :: ("BadSaying" : Str) :: ("BadText" : Str) :: ("NoDivisor" : Str) :: ("TooMany" : Str) :: ("FIGURES" : Str) :: ("common_divisor" : Str) :: ("figures_in" : Str) :: ("integer_in" : Str) :: ("MOST_FIGURES" : Str) :: ("parts_of" : Str) :: ("need_divisor" : Str) :: ("Ratio" : Str) :: ("is_fifth" : Str) :: ("need_fifth" : Str) :: ("key_of" : Str) :: ("marks_with" : Str) :: ("marks_of_pair" : Str) :: ("marks_of_three" : Str) :: ("MOST_NUMBER" : Str) :: ("need_note" : Str) :: ("Term" : Str) :: ("Note" : Str) :: ("Moving" : Str) :: ("need_term" : Str) :: ("Saying" : Str) :: ("need_saying_in" : Str) :: ("Paired" : Str) :: ("Comparing" : Str) :: ("Levelled" : Str) :: ("At" : Str) :: ("Below" : Str) :: ("Between" : Str) :: ("need_sayings" : Str) :: ("deepest" : Str) :: ("Joined" : Str) :: ("All" : Str) :: ("Any" : Str) :: ("Not" : Str) :: ("_law_pen" : Str) :: ("_law_draw" : Str) :: ("_law_pick" : Str) :: ("_law_fraction" : Str) :: ("_law_number" : Str) :: ("_law_term" : Str) :: ("_law_real_term" : Str) :: ("_law_key" : Str) :: ("_law_holds" : Str) :: ("_law_real" : Str) :: ("_law_compared" : Str) :: ("_law_kept_right" : Str) :: ("_law_near_right" : Str) :: ("_law_far_right" : Str) :: [])) (d := HandSHeadRun.topDef (OpenLaw.row PySem.Challenge.rw_anyfifth_k39_positions_compared).prog 71) (kwd := []) Lw.ob_eq
    (by kernel_rfl) (fun s => by kernel_rfl) Lw.run (by kernel_rfl) (by kernel_rfl) (by kernel_rfl) (by rfl) (by first | assumption | decide +kernel) (by decide +kernel) ⟨rfl, rfl, rfl, rfl, rfl, by decide +kernel⟩ ?hw ?hc
  case hw => w_witness2
  case hc =>
    refine G.walk_ofG (l := PySem.Challenge.rw_anyfifth_k39_positions_compared) (n := 63) (k := 14) (x := "_law_script") (CX := L2.CX0) rfl (by decide) (by kernel_rfl) ⟨rfl, by decide, by decide⟩ ?F (fun _ _ _ _ z => z)
    intro w mg u h Y N hu
    obtain ⟨K, KX, c⟩ := Y
    have hl : mg ("law" : PySem.Str) = some (.ref u) := by
      have nm : (HandSHeadRun.topDef (OpenLaw.row PySem.Challenge.rw_anyfifth_k39_positions_compared).prog 71).name = ("law" : PySem.Str) := by kernel_rfl
      rw [← nm]
      exact hu
    obtain ⟨fd, hb, hF⟩ := Lw.facts (P := (PySem.Challenge.rw_anyfifth_k39_positions_compared).prog) (w := w) KX N hl c
    exact ⟨K, fd, Lw.sp_law K, KX, hb, fun H a ns le _ hS => ⟨a, ns, rfl, hS, le, fun _ => rfl⟩, hF⟩

