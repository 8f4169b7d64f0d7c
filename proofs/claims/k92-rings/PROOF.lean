import PyProof.Rows.All
import Wide.All
import OpenK.AllK
import Wide.FinOn
import KE.KStateDown
import HandS.ForMost
import HandS.Wide
import HandS.IsInst
import HandS.Defaults
import HandS.Property
import HandS.More
import HandS.Style
import HandS.ClsMeth
import HandS.SlotsOwn
import HandS.Head0
import HandS.Head1
import HandS.Head2
import HandS.HeadEnd
import HandS.HeadHook1
import HandS.HeadHook2
import HandS.HeadNt
import HandS.Lambda
import HandS.FStr
import KE.KOpsOwn
import KE.KCallOwn
import KE.KFmtOwn
import HandS.TryOnly
import HandS.Nested
import HandS.ExcInit
import HandS.ExcField
import HandS.MakeKw
import HandS.TryMany
import HandS.ExcOwn
import KE.KExcSuper
import HandS.EndTab
import HandS.Zip
import HandS.Star
import HandS.Text
import HandS.Conv
import HandS.TupAny
import HandS.GenList
import HandS.SetFor
import HandS.SortInts
import HandS.Strs
import KE.KExcIs
import KE.GoesMore
import HandS.TupMul
import PySem.Challenge.RW_anyfifth_k92_rings_looked_at
set_option Elab.async false
set_option linter.all false
set_option maxRecDepth 100000
set_option maxHeartbeats 4000000
/-! G: own layer over HandS: heap relations, general operators, step lemmas, a stepping line, the head's facts as Bools. -/
namespace G
open PySem PySem.Spec PyProof.Rows L2

/-! ### heaps -/
/-- no table of code objects -/
def nt : HO → Bool
  | .tbl _ => false
  | _ => true
/-- the names of the law's lambdas, by line and column -/
def NM : Nat → Nat → Str := fun l c => if l = 393 ∧ c = 22 then "_law_kinds_right.<locals>.<lambda>" else ""
/-- at P: a table of code objects, each with the name that its place has -/
def TabP (H : Hp) (P : Addr) : Prop := ∃ ps : Array Value, H P = some (.tbl ps) ∧ TriplesOk ps.toList ∧ ∀ (pos : Pos) (cv : Value), codeAmong pos ps.toList = some cv → ∃ c, cv = .ref c ∧ H c = some (LamX.CodeO c (NM pos.line pos.col))
theorem TabP.ext {H H' : Hp} {P : Addr} (t : TabP H P) (e : ∀ b o, H b = some o → H' b = some o) : TabP H' P := by
  obtain ⟨ps, h1, h2, h3⟩ := t
  refine ⟨ps, e _ _ h1, h2, fun pos cv hc => ?_⟩
  obtain ⟨c, e1, e2⟩ := h3 pos cv hc
  exact ⟨c, e1, e _ _ e2⟩
theorem TabP.nil {H : Hp} {P : Addr} (h : H P = some (.tbl #[])) : TabP H P := ⟨#[], h, True.intro, fun pos cv hc => by
  have z : codeAmong pos [] = some cv := hc
  simp [codeAmong] at z⟩
/-- all that was tracked is as it was; the tables of code objects may tell more, and are still such tables -/
structure Kp (H H' : Hp) : Prop where
  all : ∀ b o, H b = some o → (z : nt o = true := by first | rfl | assumption) → H' b = some o
  gone : ∀ b, H' b = .none → H b = .none
  tb : ∀ P, TabP H P → TabP H' P
instance {H H' : Hp} : CoeFun (Kp H H') fun _ => ∀ b o, H b = some o → (z : nt o = true := by first | rfl | assumption) → H' b = some o := ⟨fun k => @Kp.all _ _ k⟩
/-- the list at p was changed, all else is as it was -/
structure Md (p : Addr) (H H' : Hp) : Prop where
  was : ∃ xs, H p = some (.lst xs)
  now : ∃ xs, H' p = some (.lst xs)
  all : ∀ b o, b ≠ p → H b = some o → (z : nt o = true := by first | rfl | assumption) → H' b = some o
  gone : ∀ b, H' b = .none → H b = .none
  tb : ∀ P, TabP H P → TabP H' P
theorem Kp.refl {H : Hp} : Kp H H := ⟨fun _ _ h _ => h, fun _ h => h, fun _ h => h⟩
theorem Kp.trans {H H1 H2 : Hp} (a : Kp H H1) (b : Kp H1 H2) : Kp H H2 := ⟨fun c o h z => b.all c o (a.all c o h z) z, fun c h => a.gone c (b.gone c h), fun P h => b.tb P (a.tb P h)⟩
/-- nothing at all changes -/
theorem Kp.of {H H' : Hp} (h : ∀ b o, H b = some o → H' b = some o) : Kp H H' := by
  refine ⟨fun b o e _ => h b o e, fun b e => ?_, fun P t => t.ext h⟩
  cases q : H b with
  | none => rfl
  | some o => rw [h b o q] at e; cases e
theorem Kp.new {H : Hp} {p : Addr} {o : HO} (h : H p = .none) : Kp H (upd H p o) := .of fun a u e => by rw [upd_ne (ne_of_none e h)]; exact e
theorem Kp.at {H H' : Hp} {a : Addr} {o : HO} (k : Kp H H') (h : H a = some o) (z : nt o = true := by first | rfl | assumption) : H' a = some o := k.all a o h z
theorem Kp.back {H H' : Hp} {a : Addr} (k : Kp H H') (h : H' a = .none) : H a = .none := k.gone a h
theorem Md.back {p : Addr} {H H' : Hp} {a : Addr} (k : Md p H H') (h : H' a = .none) : H a = .none := k.gone a h
section
variable {H H' H1 H2 : Hp} {p a : Addr} {xs ys : List V} {C dx : Addr} {fs : List (Str × V)} {o u : HO} {ob : Obj} {kvs : List (Key × V)} {φ : Heap → Prop}
theorem Md.kp (k : Md p H H') (b : Addr) (o : HO) (n : b ≠ p) (h : H b = some o) (z : nt o = true := by first | rfl | assumption) : H' b = some o := k.all b o n h z
theorem Md.ins (k : Md p H H') (h : H a = some (.ins C dx fs)) : H' a = some (.ins C dx fs) := by
  obtain ⟨zs, e⟩ := k.was
  exact k.kp a _ (ne_of h e (fun z => by cases z)) h
theorem Md.tup (k : Md p H H') (h : H a = some (.tup xs)) : H' a = some (.tup xs) := by
  obtain ⟨zs, e⟩ := k.was
  exact k.kp a _ (ne_of h e (fun z => by cases z)) h
theorem Md.frz (k : Md p H H') (h : H a = some (.frz ob u)) : H' a = some (.frz ob u) := by
  obtain ⟨zs, e⟩ := k.was
  exact k.kp a _ (ne_of h e (fun z => by cases z)) h
theorem Md.dK (k : Md p H H') (h : H a = some (.dK kvs)) : H' a = some (.dK kvs) := by
  obtain ⟨zs, e⟩ := k.was
  exact k.kp a _ (ne_of h e (fun z => by cases z)) h
theorem Md.lst (k : Md p H H') (h : H a = some (.lst xs)) (n : a ≠ p) : H' a = some (.lst xs) := k.kp a _ n h
theorem Md.trans (j : Md p H H1) (k : Md p H1 H2) : Md p H H2 := ⟨j.was, k.now, fun b o n h z => k.all b o n (j.all b o n h z) z, fun b e => j.gone b (k.gone b e), fun P t => k.tb P (j.tb P t)⟩
theorem Md.of_kp (h : H p = some (.lst xs)) (k : Kp H H') : Md p H H' := ⟨⟨xs, h⟩, ⟨xs, k _ _ h⟩, fun b o _ e z => k.all b o e z, k.gone, k.tb⟩
theorem Md.kp_r (j : Md p H H1) (k : Kp H1 H2) : Md p H H2 := ⟨j.was, let ⟨xs, e⟩ := j.now; ⟨xs, k _ _ e⟩, fun b o n h z => k.all b o (j.all b o n h z) z, fun b e => j.gone b (k.gone b e), fun P t => k.tb P (j.tb P t)⟩
theorem Kp.md_r (j : Kp H H1) (k : Md p H1 H2) (h : H p = some (.lst xs)) : Md p H H2 := ⟨⟨xs, h⟩, k.now, fun b o n h z => k.all b o n (j.all b o h z) z, fun b e => j.gone b (k.gone b e), fun P t => k.tb P (j.tb P t)⟩
/-- a new list changes: nothing of before changes -/
theorem Kp.md_new (j : Kp H H1) (k : Md p H1 H2) (h : H p = .none) : Kp H H2 := ⟨fun b o e z => k.all b o (ne_of_none e h) (j.all b o e z) z, fun b e => j.gone b (k.gone b e), fun P t => k.tb P (j.tb P t)⟩
theorem Md.md_new {q : Addr} (j : Md p H H1) (k : Md q H1 H2) (h : H q = .none) : Md p H H2 := by
  refine ⟨j.was, ?_, fun b o n e z => k.all b o (ne_of_none e h) (j.all b o n e z) z, fun b e => j.gone b (k.gone b e), fun P t => k.tb P (j.tb P t)⟩
  obtain ⟨xs, e⟩ := j.now
  obtain ⟨zs, w⟩ := j.was
  exact ⟨xs, k.kp p _ (ne_of_none w h) e⟩
/-- a table's facts where one object that is no table and no code object is written -/
theorem tab_upd {P : Addr} (h : H p = some o) (hz : nt o = true) (he : ∀ c q, o ≠ LamX.CodeO c q) (t : TabP H P) : TabP (L2.upd H p u) P := by
  obtain ⟨ps, h1, h2, h3⟩ := t
  refine ⟨ps, by rw [upd_ne (ne_of h1 h (fun z => by subst z; cases hz))]; exact h1, h2, fun pos cv hc => ?_⟩
  obtain ⟨c, e1, e2⟩ := h3 pos cv hc
  exact ⟨c, e1, by rw [upd_ne (ne_of e2 h (fun z => he c _ z.symm))]; exact e2⟩
theorem none_upd (h : H p = some o) : ∀ b, L2.upd H p u b = .none → H b = .none := fun b e => by
  by_cases z : b = p
  · rw [z, upd_same] at e
    cases e
  · rw [upd_ne z] at e
    exact e
theorem lst_code {c : Addr} {q : Str} : HO.lst xs ≠ LamX.CodeO c q := fun z => by
  unfold LamX.CodeO at z
  cases z
theorem ins_code {c : Addr} {q : Str} : HO.ins C dx fs ≠ LamX.CodeO c q := fun z => by
  unfold LamX.CodeO at z
  cases z
theorem dK_code {c : Addr} {q : Str} : HO.dK kvs ≠ LamX.CodeO c q := fun z => by
  unfold LamX.CodeO at z
  cases z
theorem Md.upd (h : H p = some (.lst xs)) : Md p H (L2.upd H p (.lst ys)) := ⟨⟨xs, h⟩, ⟨ys, upd_same⟩, fun b o n e _ => by rw [upd_ne n]; exact e, none_upd h, fun P t => tab_upd h rfl (fun _ _ => lst_code) t⟩
theorem TabP.kp {P : Addr} (k : Kp H H') (t : TabP H P) : TabP H' P := k.tb P t
theorem TabP.md {P : Addr} (k : Md p H H') (t : TabP H P) : TabP H' P := k.tb P t
theorem SqT.kp {K : PySem.W.Frag} (k : Kp H H') (h : SqT K H a xs) : SqT K H' a xs := by
  rcases h with (h | ⟨o, h⟩) | h
  · exact .inl (.inl (k _ _ h))
  · exact .inl (.inr ⟨o, k _ _ h⟩)
  · exact .inr h
theorem SqT.md {K : PySem.W.Frag} (k : Md p H H') (h : SqT K H a xs) : SqT K H' a xs := by
  rcases h with (h | ⟨o, h⟩) | h
  · exact .inl (.inl (k.tup h))
  · exact .inl (.inr ⟨o, k.frz h⟩)
  · exact .inr h
theorem SqL.kp {K : PySem.W.Frag} (k : Kp H H') (h : SqL K H a xs) : SqL K H' a xs := by
  rcases h with (h | ⟨o, h⟩) | h
  · exact .inl (.inl (k _ _ h))
  · exact .inl (.inr ⟨o, k _ _ h⟩)
  · exact .inr h
end
/-- facts about tracked objects: from one heap to a later one, on demand -/
local macro_rules | `(tactic| walk_at "hp") => `(tactic| first
  | assumption
  | (refine SqT.kp (by assumption) ?_; walk_at "hp")
  | (refine SqT.md (by assumption) ?_; walk_at "hp")
  | (refine SqL.kp (by assumption) ?_; walk_at "hp")
  | (refine Kp.at (by assumption) ?_; walk_at "hp")
  | (refine Md.tup (by assumption) ?_; walk_at "hp")
  | (refine Md.ins (by assumption) ?_; walk_at "hp")
  | (refine Md.frz (by assumption) ?_; walk_at "hp")
  | (refine Md.lst (by assumption) ?_ (by first | assumption | (apply Ne.symm; assumption)); walk_at "hp")
  | (refine SqT.of ?_; walk_at "hp")
  | (refine SqL.of ?_; walk_at "hp"))
example {K : PySem.W.Frag} {H H1 H2 : Hp} {a p : Addr} (k : Kp H H1) (m : Md p H1 H2) (h : SqT K H a [.int 1]) : SqT K H2 a [.int 1] := by walk_at "hp"
example {K : PySem.W.Frag} {H H1 H2 : Hp} {a p : Addr} (k : Kp H H1) (m : Md p H1 H2) (h : H a = some (.tup [.int 1])) : ∃ xs, SqT K H2 a xs := by
  refine ⟨?_, ?h⟩
  case h => walk_at "hp"
end G
namespace G
open PySem PySem.Spec PyProof.Rows L2
/-! ### defs of the text: where they stand, the head's facts as Bools -/
/-- the def object at an address -/
def fdOf (K : PySem.W.Frag) (a : Addr) : FuncData := match K.lookup a with
  | some ⟨_, _, .func fd, _⟩ => fd
  | _ => PySem.W.fnOf Str.empty Str.empty { posonlyargs := [], args := [], vararg := none, kwonlyargs := [], kw_defaults := [], kwarg := none, defaults := [] } [] { kind := .function, names := [], isGenerator := false, isCoroutine := false } .none .none .none .none none .none .none
abbrev ExB : Type := PySem.W.Frag → Bool
def obsX (ex : List ExB) (fn : List He5.DefA) (K : PySem.W.Frag) : He.AlD := ((ex.all fun f => f K) && fn.all fun d => d.ok K, fn.map fun d => He5.fnA K (d.at_ K))
def SaysX (ex : List ExB) (fn : List He5.DefA) (K : PySem.W.Frag) : Prop := obsX ex fn K = He5.valA fn
def obsXG (n : Nat) (ex : List ExB) (fn : List He5.DefA) (g : Addr → Option Obj) : He.AlD := obsX ex fn (He.frG g (He5.asA g n))
def hookX (n : Nat) (ex : List ExB) (fn : List He5.DefA) : PySem.W.Hook where
  α := He.AlD
  obs := fun s => obsXG n ex fn s.heap.get?
  val := fun _ => He5.valA fn
  says := fun _ h => ∃ K : PySem.W.Frag, K.In h ∧ SaysX ex fn K
  of := fun _ _ e => ⟨_, He.frG_in, e⟩
  keeps := fun _ _ _ ⟨K, hK, c⟩ k => ⟨K, PySem.W.Frag.In.keeps hK k, c⟩
theorem obsXG_eq {n : Nat} {ex : List ExB} {fn : List He5.DefA} {g : Addr → Option Obj} {s : Shared} (h : ∀ a, g a = s.heap.get? a) : obsXG n ex fn g = (hookX n ex fn).obs s := by
  have e : g = s.heap.get? := funext h
  rw [e] <;> rfl
/-- what a claim's text knows of the written part: its Bools, its defs, the module's names -/
structure Txt (ex : List ExB) (fn : List He5.DefA) (K : PySem.W.Frag) (mg : Str → Option Value) : Prop where
  says : SaysX ex fn K
  glo : ∀ x a, PySem.W.nsIn K mainGlobals x = some (some a) → mg x = some a
  fre : ∀ x, PySem.W.nsIn K mainGlobals x = some none → mg x = none
section
variable {ex : List ExB} {fn : List He5.DefA} {K : PySem.W.Frag} {mg : Str → Option Value}
theorem Txt.mk' {h : Heap} (X : K.In h) (G : h.Ns mainGlobals mg) (c : SaysX ex fn K) : Txt ex fn K mg := ⟨c, fun _ _ e => PySem.W.mg_of X G e, fun _ e => PySem.W.mg_none_of X G e⟩
theorem Txt.fact (T : Txt ex fn K mg) (i : Nat) {f : ExB} (h : ex[i]? = some f := by rfl) : f K = true := by
  have c1 := (He.ba (show ((ex.all fun f => f K) && fn.all fun d => d.ok K) = true from congrArg (fun z : He.AlD => z.1) T.says)).1
  exact List.all_eq_true.mp c1 f (List.mem_of_getElem? h)
theorem Txt.def_ (T : Txt ex fn K mg) (i : Nat) {d : He5.DefA} (h : fn[i]? = some d := by rfl) : L2.FunD K d.name d.qual d.params d.body d.scope (d.dvs K) (d.kws K) (d.at_ K) (fdOf K (d.at_ K)) := by
  have c2 := (He.ba (show ((ex.all fun f => f K) && fn.all fun d => d.ok K) = true from congrArg (fun z : He.AlD => z.1) T.says)).2
  have e : fn.map (fun d => He5.fnA K (d.at_ K)) = fn.map He5.DefA.val := congrArg (fun z : He.AlD => z.2) T.says
  have e2 : (fn.map fun d => He5.fnA K (d.at_ K))[i]? = (fn.map He5.DefA.val)[i]? := by rw [e]
  rw [List.getElem?_map, List.getElem?_map, h] at e2
  obtain ⟨fd, F⟩ := He5.DefA.funD (Option.some.inj e2) (List.all_eq_true.mp c2 d (List.mem_of_getElem? h))
  obtain ⟨oc, od, dV, kV, doc, pm, an, cdv, ct, osl, e3, lk, r⟩ := F.ex
  have e4 : fdOf K (d.at_ K) = fd := by
    unfold fdOf
    rw [lk]
  rw [e4]
  exact F
/-- a global name's object -/
def gloB (x : Str) : ExB := fun K => He.eqO (PySem.W.nsIn K mainGlobals x) (some (some (.ref (He.ga K x))))
def freB (x : Str) : ExB := fun K => He.eqO (PySem.W.nsIn K mainGlobals x) (some none)
theorem Txt.gl (T : Txt ex fn K mg) (i : Nat) (x : Str) (h : ex[i]? = some (gloB x) := by rfl) : mg x = some (.ref (He.ga K x)) := T.glo x _ (He.eqO_ok (T.fact i h))
theorem Txt.fr (T : Txt ex fn K mg) (i : Nat) (x : Str) (h : ex[i]? = some (freB x) := by rfl) : mg x = none := T.fre x (He.eqO_ok (T.fact i h))
/-- an own class: attributes, isinstance, its making -/
def clsB (x : Str) : ExB := fun K => (He.Fa.cls x).ok K
def noatB (x f : Str) : ExB := fun K => (He.Fa.noat x f).ok K
def methB (x m : Str) : ExB := fun K => (He.Fa.meth x m).ok K
def mkrB (x : Str) : ExB := fun K => (He.Fa.mkr x).ok K
/-- what isinstance asks of instances of the class x -/
def isiB (x : Str) : ExB := fun K => He.eqO (PySem.W.findIn K (.ref (He.ga K x)) "__class__") (some (some (.builtin "object.__class__"))) && (He.eqO (PySem.W.specialIn K (.builtin "object.__class__") "__get__") (some (some (.builtin "getset_descriptor.__get__"))) &&
  (decide (PySem.W.takesIn K (.builtin "object.__class__") = some true) && decide (PySem.W.mroIn K (He.ga K x) (.type "object") = some true)))
structure IsiC (K : PySem.W.Frag) (C : Addr) : Prop where
  ha : PySem.W.findIn K (.ref C) "__class__" = some (some (.builtin "object.__class__"))
  hn : PySem.W.specialIn K (.builtin "object.__class__") "__get__" = some (some (.builtin "getset_descriptor.__get__"))
  ht : PySem.W.takesIn K (.builtin "object.__class__") = some true
  hm : PySem.W.mroIn K C (.type "object") = some true
theorem isiB_ok {x : Str} (h : isiB x K = true) : IsiC K (He.ga K x) := by
  obtain ⟨h1, h⟩ := He.ba h
  obtain ⟨h2, h⟩ := He.ba h
  obtain ⟨h3, h4⟩ := He.ba h
  exact ⟨He.eqO_ok h1, He.eqO_ok h2, of_decide_eq_true h3, of_decide_eq_true h4⟩
/-- isinstance(a thing of type t, the class x) is b -/
def kitB (t : PySem.W.Frag → Value) (x : Str) (b : Bool) : ExB := fun K => decide (PySem.W.kitOne K (t K) (.ref (He.ga K x)) = some b)
theorem kitB_ok {t : PySem.W.Frag → Value} {x : Str} {b : Bool} (h : kitB t x b K = true) : PySem.W.kitOne K (t K) (.ref (He.ga K x)) = some b := of_decide_eq_true h
/-- .. with a built-in class -/
def kitTB (t : PySem.W.Frag → Value) (x : String) (b : Bool) : ExB := fun K => decide (PySem.W.kitOne K (t K) (.type x) = some b)
theorem kitTB_ok {t : PySem.W.Frag → Value} {x : String} {b : Bool} (h : kitTB t x b K = true) : PySem.W.kitOne K (t K) (.type x) = some b := of_decide_eq_true h
/-- the class x is read as classes are -/
def rdB (x : Str) : ExB := fun K => PySem.W.readsIn K (He.ga K x) (.type "type") && He.eqO (PySem.W.specialIn K (.ref (He.ga K x)) "__getattribute__") (some (some (.builtin "type.__getattribute__")))
theorem rdB_ok {x : Str} (h : rdB x K = true) : ClX.CRead K (He.ga K x) (.type "type") := ⟨(He.ba h).1, He.eqO_ok (He.ba h).2⟩
/-- a static method -/
def smA (x m : Str) : PySem.W.Frag → Addr := fun K => He5.wf K (He.ga K x) "staticmethod" m
def smB (x m : Str) : ExB := fun K => He5.wrapB K (He.ga K x) "staticmethod" "staticmethod.__get__" m && PySem.W.keepIn K (.ref (smA x m K))
structure SMet (K : PySem.W.Frag) (C : Addr) (mc : Value) (m : Str) (g : Addr) : Prop where
  ex : ∃ (p : Addr) (rest : List Value), PySem.W.findCls K (.ref C) mc m = some (.get (.builtin "staticmethod.__get__") (.ref p) .none (.ref C)) ∧ PySem.W.recIn K p "staticmethod" = some (.ref g :: rest)
  kp : PySem.W.keepIn K (.ref g) = true
theorem smB_ok {x m : Str} (h : smB x m K = true) : SMet K (He.ga K x) (.type "type") m (smA x m K) := by
  obtain ⟨h1, h2⟩ := He.ba h
  obtain ⟨h3, rest, h4⟩ := He5.wrapB_ok h1
  exact ⟨⟨_, rest, h3, h4⟩, h2⟩
/-- a def of the class x for an operator; no class t stands before it -/
def ownB (x m : Str) : ExB := fun K => He.eqO (PySem.W.findIn K (.ref (He.ga K x)) m) (some (some (.ref (He.ma K (He.ga K x) m)))) && PySem.W.isFn K (.ref (He.ma K (He.ga K x) m))
structure OwnM (K : PySem.W.Frag) (C : Addr) (m : Str) (g : Addr) : Prop where
  at_ : PySem.W.findIn K (.ref C) m = some (some (.ref g))
  fn : PySem.W.isFn K (.ref g) = true
theorem ownB_ok {x m : Str} (h : ownB x m K = true) : OwnM K (He.ga K x) m (He.ma K (He.ga K x) m) := ⟨He.eqO_ok (He.ba h).1, (He.ba h).2⟩
def nfB (x : Str) (t : PySem.W.Frag → Value) : ExB := fun K => PySem.W.notFirst K (He.ga K x) (t K)
/-- a property -/
def prA (x m : Str) : PySem.W.Frag → Addr := fun K => He5.wf K (He.ga K x) "property" m
def prB (x m : Str) : ExB := fun K => He.eqO (PySem.W.findIn K (.ref (He.ga K x)) m) (some (some (.ref (He.ma K (He.ga K x) m)))) && (He.eqO (PySem.W.specialIn K (.ref (He.ma K (He.ga K x) m)) "__get__") (some (some (.builtin "property.__get__"))) &&
  (decide (PySem.W.takesIn K (.ref (He.ma K (He.ga K x) m)) = some true) && (match PySem.W.recIn K (He.ma K (He.ga K x) m) "property" with
    | some (.ref _ :: _) => true
    | _ => false)))
theorem prB_ok {x m : Str} (h : prB x m K = true) : L2.PropOf K (He.ga K x) m (He.ma K (He.ga K x) m) (prA x m K) := by
  obtain ⟨h1, h⟩ := He.ba h
  obtain ⟨h2, h⟩ := He.ba h
  obtain ⟨h3, h4⟩ := He.ba h
  refine ⟨He.eqO_ok h1, He.eqO_ok h2, of_decide_eq_true h3, ?_⟩
  unfold prA He5.wf
  split at h4
  · rename_i f r e
    exact ⟨r, by rw [e]⟩
  · cases h4
end
section
variable {P : Program} {w : World} {K : PySem.W.Frag} {mg : Str → Option Value} {base : Heap} {x qual : Str} {st : Stmt} {dvs : List V} {kws : List (Str × V)} {f : Addr} {fd : FuncData}
/-- room for calls k deep, and no text of a container is being made -/
structure RoomG (k : Nat) (A : Around) : Prop where
  rm : Room k A
  gs : A.guards = some []
theorem RoomG.mono {j k : Nat} {A : Around} (r : RoomG k A) (h : j ≤ k) : RoomG j A := ⟨r.rm.mono h, r.gs⟩
theorem RoomG.deeper {k : Nat} {A : Around} (r : RoomG (k + 1) A) (env : Env) : RoomG k (A.deeper env) := ⟨r.rm.deeper env, r.gs⟩
theorem RoomG.units {k : Nat} {A : Around} (r : RoomG k A) : A.units + 64 < cLine := r.rm.units
theorem RoomG.units0 {k : Nat} {A : Around} (r : RoomG k A) : A.units < cLine := r.rm.units0
theorem RoomG.in1 {k : Nat} {A : Around} (r : RoomG (k + 1) A) : RoomG k A.in1 := ⟨r.rm.in1, r.gs⟩
theorem RoomG.make {k : Nat} {A : Around} (r : RoomG (k + 1) A) (C : Addr) (us : List Value) (kw : List (Str × Value)) : RoomG k (A.under (.builtin "type.__call__" ⟨.ref C :: us, kw⟩)) := ⟨r.rm.make C us kw, by
  have e : (A.under (.builtin "type.__call__" ⟨.ref C :: us, kw⟩)).guards = A.guards := by
    first | rfl | (cases q : A.guards <;> simp [Around.under, Code.guards, Code.isGuard, pushGuards, guardIds, q])
  rw [e]
  exact r.gs⟩
/-- what a def promises to every call that has such room -/
structure FnG (P : Program) (w : World) (K : PySem.W.Frag) (mg : Str → Option Value) (base : Heap) (CX : CXT) (k : Nat) (f : Addr) (fd : FuncData) (ps : List Str) (sp : Sp) : Prop where
  len : ∀ {vs : List V} {H : Hp} {Q : VK} {E : XK}, sp vs H Q E → vs.length = ps.length
  run : ∀ {A : Around} {outer : List Env} {s : Shared} {H : Hp} {args : Args} {us : List Value} {vs : List V} {Q : VK} {E : XK},
    RoomG k A → Env0 P w K mg base A outer s H → BindsTo s fd args (ps.zip us) → Vals vs us → sp vs H Q E → codeAny (model P w) A (.call (.ref f) args) (CR CX outer P w H s Q E) s
theorem FnG.mono {P : Program} {w : World} {K : PySem.W.Frag} {mg : Str → Option Value} {base : Heap} {CX : CXT} {j k : Nat} {f : Addr} {fd : FuncData} {ps : List Str} {sp : Sp}
    (F : FnG P w K mg base CX j f fd ps sp) (h : j ≤ k) : FnG P w K mg base CX k f fd ps sp := ⟨F.len, fun r => F.run (r.mono h)⟩
/-- a def's promise, by its body; what the body may let out is told by CX -/
theorem okX_of {CX : CXT} {N ps : List Str} {k : Nat} {sp : Sp} (F : L2.FunD K x qual (defArgs st) (defBody st) (defScope st) dvs kws f fd) (S : FnScope N ps (defScope st)) (len : ∀ vs H Q E, sp vs H Q E → vs.length = ps.length)
    (hbody : ∀ (cdv : Value) (A : Around) (outer : List Env) (s : Shared) (H : Hp) (vs : List V) (Q : VK) (E : XK), RoomG k (A.deeper (envOfC qual (defScope st) s.heap.objs.size f cdv)) → sp vs H Q E →
      ∃ t, PSs (cxOf CX P w K mg base N qual (defScope st) f cdv A outer s H E) (defBody st) t ∧ t { nx := fun _ H' => Q .non H', rt := Q } (start N vs) H) : FnG P w K mg base CX (k + 1) f fd ps sp := by
  obtain ⟨oc, od, dV, kV, doc, pm, an, cdv, ct, osl, rfl, lk, hcd, _, _⟩ := F.ex
  exact ⟨fun h => len _ _ _ _ h, fun {A outer s H args us vs Q E} r e0 hb rv h => LamX.run_ofS lk hcd S r.rm e0 hb rv (len _ _ _ _ h) fun _ => hbody cdv A outer s H vs Q E (r.deeper _) h⟩
/-- THE RULE for a def that lets no exception out -/
theorem ok_of {N ps : List Str} {k : Nat} {sp : Sp} (F : L2.FunD K x qual (defArgs st) (defBody st) (defScope st) dvs kws f fd) (S : FnScope N ps (defScope st)) (len : ∀ vs H Q E, sp vs H Q E → vs.length = ps.length)
    (hbody : ∀ (cdv : Value) (A : Around) (outer : List Env) (s : Shared) (H : Hp) (vs : List V) (Q : VK) (E : XK), RoomG k (A.deeper (envOfC qual (defScope st) s.heap.objs.size f cdv)) → sp vs H Q E →
      ∃ t, PSs (cxOf CX0 P w K mg base N qual (defScope st) f cdv A outer s H E).nox (defBody st) t ∧ t { nx := fun _ H' => Q .non H', rt := Q } (start N vs) H) : FnG P w K mg base CX0 (k + 1) f fd ps sp :=
  okX_of F S len fun cdv A outer s H vs Q E hr hsp => let ⟨t, h, q⟩ := hbody cdv A outer s H vs Q E hr hsp; ⟨t, h.nox, q⟩
end
/-! ### calls -/
section
variable {X : Cx} {CX : CXT} {k : Nat} {f C : Addr} {fd : FuncData} {ps : List Str} {sp : Sp} {dvs : List V} {ds : List Value} {E : XK} {x m : Str} {p pos apos : Pos} {e o : Expr} {es : List Expr} {ta : TE} {t : TA} {pins : List (Addr × Obj)} {σ : L2.St} {H : Hp} {s : Shared} {Q : VK} {us : List Value} {vs : List V} {pl : Sem Bool}
/-- a call's end, as its caller X sees it -/
def ER (X : Cx) (pins : List (Addr × Obj)) (σ : L2.St) (Q : VK) : Result → Shared → Prop
  | .ok (.ret u), s' => EP X pins σ Q u s'
  | .ok _, _ => False
  | .error e, s' => X.xe e s'
theorem er_of {r : Result} {s' : Shared} (hx : Passes CX X E) (I : Inv X pins σ H s) (hq : CR CX X.stack X.prog X.w H s Q E r s') : ER X pins σ Q r s' := by
  match r, hq with
  | .error e, hq => exact hx pins σ H s e s' I hq
  | .ok (.ret u), hq => exact I.after hq
  | .ok .next, hq => exact hq
  | .ok .brk, hq => exact hq
  | .ok .cont, hq => exact hq
theorem wp_er {A' : Around} {us : List Value} {kw : List (Str × Value)} (h : codeAny (model X.prog X.w) A' (.call (.ref f) ⟨us, kw⟩) (ER X pins σ Q) s) : wpAny (model X.prog X.w) A' (call (.ref f) us kw) (EP X pins σ Q) X.xe s :=
  wpAny_call (codeAny_mono h fun r s' hq => by
    match r, hq with
    | .error _, hq => exact hq
    | .ok (.ret _), hq => exact hq)
theorem run_at {A' : Around} {args : Args} {ws : List Value} (F : FnG X.prog X.w X.K X.mg X.base CX k f fd ps sp) (hr : RoomG k A') (e0 : Env0 X.prog X.w X.K X.mg X.base A' X.stack s H) (hx : Passes CX X E) (I : Inv X pins σ H s) (hb : BindsTo s fd args (ps.zip ws)) (r : Vals vs ws) (h : sp vs H Q E) :
    codeAny (model X.prog X.w) A' (.call (.ref f) args) (ER X pins σ Q) s := codeAny_mono (F.run hr e0 hb r h) fun _ _ hq => er_of hx I hq
theorem len_of (F : FnG X.prog X.w X.K X.mg X.base CX k f fd ps sp) (hd : Vals dvs ds) (r : Vals vs us) (h : sp (vs ++ dvs) H Q E) : (us ++ ds).length = ps.length := by rw [← (r.append hd).length]; exact F.len h
theorem run_fnG (F : FnG X.prog X.w X.K X.mg X.base CX k f fd ps sp) (hr : RoomG k X.A) (hb : Binds X.K fd ps ds) (hd : Vals dvs ds) (hx : Passes CX X E) (I : Inv X pins σ H s) (r : Vals vs us) (h : sp (vs ++ dvs) H Q E) :
    wpAny (model X.prog X.w) X.A (call (.ref f) us) (EP X pins σ Q) X.xe s := wp_er (run_at F hr I.env0 hx I (hb s us I.kIn (len_of F hd r h)) (r.append hd) h)
/-- x(e, ..), x(): a def of the module -/
theorem pe_callG (F : FnG X.prog X.w X.K X.mg X.base CX k f fd ps sp) (hr : RoomG k X.A) (hg : Gl X x) (hm : X.mg x = some (.ref f)) (hk : PySem.W.keepIn X.K (.ref f) = true) (hb : Binds X.K fd ps ds) (hd : Vals dvs ds) (hx : Passes CX X E) (ha : PA X (e :: es) t)
    (hdb : (x == ("__debug__" : Str)) = false := by decide) (he : starEach (e :: es) X.env = (false, eval e X.env) :: starEach es X.env := by rfl) (hpl : (backTo pos (starEach es X.env)).any (·.1) = false := by rfl) : PE X (.Call (.Name x p) (e :: es) [] pos) (tCall sp dvs E t) :=
  ⟨fun pins s σ H _ I h => wpAny_Call_Name_kw (ld_glob I hg hm (PySem.W.callWith_K (h₀ := X.base) I.ok.mod.kin hk (thn (ha.run pos pins s σ H _ I h) fun _ _ ⟨_, _, J, r, q⟩ => ⟨J.kIn, run_fnG F hr hb hd hx J r q⟩) he hpl) hdb)⟩
theorem pe_callG0 (F : FnG X.prog X.w X.K X.mg X.base CX k f fd ps sp) (hr : RoomG k X.A) (hg : Gl X x) (hm : X.mg x = some (.ref f)) (hk : PySem.W.keepIn X.K (.ref f) = true) (hb : Binds X.K fd ps ds) (hd : Vals dvs ds) (hx : Passes CX X E)
    (hdb : (x == ("__debug__" : Str)) = false := by decide) : PE X (.Call (.Name x p) [] [] pos) (tCall sp dvs E tNil) :=
  ⟨fun _ _ _ _ _ I h => wpAny_Call_Name_kw (ld_glob I hg hm (PySem.W.callWith_K0 I.kIn hk (run_fnG (us := []) F hr hb hd hx I .nil h)) hdb)⟩
/-- the text of o.m(..) as it is run -/
def MethT (X : Cx) (o : Expr) (m : Str) (apos pos : Pos) (es : List Expr) (kws : List Keyword) (pl : Sem Bool) : Prop :=
  eval (.Call (.Attribute o m apos) es kws pos) X.env = (do
    let u ← eval o X.env
    standAt apos.atName
    let (g, first) ← holding [u] (getMethod u m pl)
    callWith pos g first (backTo pos (starEach es X.env)) (backToKw pos (keywordEach kws X.env)))
theorem pe_methG (he : PE X o ta) (c : Cls X.K C) (hm : Meth X.K C m f) (F : FnG X.prog X.w X.K X.mg X.base CX k f fd ps sp) (hr : RoomG k X.A) (hb : Binds X.K fd ps ds) (hd : Vals dvs ds) (hx : Passes CX X E) (ha : PA X (e :: es) t)
    (hst : starEach (e :: es) X.env = (false, eval e X.env) :: starEach es X.env := by rfl) (hpl : (backTo pos (starEach es X.env)).any (·.1) = false := by rfl) (ht : MethT X o m apos pos (e :: es) [] pl := by rfl) :
    PE X (.Call (.Attribute o m apos) (e :: es) [] pos) (tMeth C m sp dvs E ta t) :=
  ⟨fun pins s σ H _ I h => PySem.W.methodCall_KW (pl := pl) (thn (he.run pins s σ H _ I h) fun u s1 ⟨x, H1, J, rx, a, dx, fs, ex, ea, l, q⟩ => by
    subst ex
    cases (show u = Value.ref a from rx)
    exact getmeth_ok J ea c hm l (PySem.W.callWith_K (first := [.ref a]) (h₀ := X.base) J.ok.mod.kin hm.kp (thn (ha.run pos pins s1 σ H1 _ J q) fun us _ ⟨vs, _, J2, r, q2⟩ => ⟨J2.kIn, run_fnG (us := .ref a :: us) (vs := .ref a :: vs) F hr hb hd hx J2 (.cons rfl r) q2⟩) hst hpl)) ht⟩
theorem pe_methG0 (he : PE X o ta) (c : Cls X.K C) (hm : Meth X.K C m f) (F : FnG X.prog X.w X.K X.mg X.base CX k f fd ps sp) (hr : RoomG k X.A) (hb : Binds X.K fd ps ds) (hd : Vals dvs ds) (hx : Passes CX X E)
    (ht : MethT X o m apos pos [] [] pl := by rfl) : PE X (.Call (.Attribute o m apos) [] [] pos) (tMeth C m sp dvs E ta tNil) :=
  ⟨fun pins s σ H _ I h => PySem.W.methodCall_KW (pl := pl) (thn (he.run pins s σ H _ I h) fun u s1 ⟨x, H1, J, rx, a, dx, fs, ex, ea, l, q⟩ => by
    subst ex
    cases (show u = Value.ref a from rx)
    exact getmeth_ok J ea c hm l (PySem.W.callWith_K0 (first := [.ref a]) J.kIn hm.kp (run_fnG (us := [.ref a]) (vs := [.ref a]) F hr hb hd hx J (.cons rfl .nil) q))) ht⟩
/-- C(..), C an own class with an __init__ -/
theorem run_makeG (M : Mk X.K C f) (F : FnG X.prog X.w X.K X.mg X.base CX k f fd ps sp) (hr : RoomG (k + 1) X.A) (hb : Binds X.K fd ps ds) (hd : Vals dvs ds) (hx : Passes CX X E) (I : Inv X pins σ H s) (r : Vals vs us)
    (h : ∀ a dx, H a = none → H dx = none → dx ≠ a → sp (.ref a :: (vs ++ dvs)) (upd (upd H dx (.own a)) a (.ins C dx [])) (fun v H2 => v = .non ∧ Q (.ref a) H2) E) : wpAny (model X.prog X.w) X.A (call (.ref C) us) (EP X pins σ Q) X.xe s := by
  have hq := h (s.heap.objs.size + 1) s.heap.objs.size (I.hok.fresh (Nat.le_add_right _ 1)) (I.hok.fresh (Nat.le_refl _)) (Nat.ne_of_lt (Nat.lt_add_one _))
  have J := Inv.made (C := C) I
  have rv : Vals (V.ref (s.heap.objs.size + 1) :: vs) (Value.ref (s.heap.objs.size + 1) :: us) := .cons rfl r
  have run := run_at F (hr.make C us []) (J.env0.make C us []) hx J (hb _ _ J.kIn (len_of F hd rv hq)) (rv.append hd) hq
  refine wpAny_call (make_map (f := f) I.kIn M.makes M.init (beq_iff_eq.mp M.fn) (codeAny_mono run fun r s' z => ?_))
  match r, z with
  | .error _, z => exact z
  | .ok (.ret u), ⟨v, H', J', rn, ev, q⟩ =>
    subst ev
    exact ⟨rn, V.ref (s.heap.objs.size + 1), H', J', rfl, q⟩
theorem pe_makeG (M : Mk X.K C f) (F : FnG X.prog X.w X.K X.mg X.base CX k f fd ps sp) (hr : RoomG (k + 1) X.A) (hg : Gl X x) (hm : X.mg x = some (.ref C)) (hb : Binds X.K fd ps ds) (hd : Vals dvs ds) (hx : Passes CX X E) (ha : PA X (e :: es) t)
    (hdb : (x == ("__debug__" : Str)) = false := by decide) (he : starEach (e :: es) X.env = (false, eval e X.env) :: starEach es X.env := by rfl) (hpl : (backTo pos (starEach es X.env)).any (·.1) = false := by rfl) : PE X (.Call (.Name x p) (e :: es) [] pos) (tMake C sp dvs E t) :=
  ⟨fun pins s σ H _ I h => wpAny_Call_Name_kw (ld_glob I hg hm (PySem.W.callWith_K (h₀ := X.base) I.ok.mod.kin M.kp (thn (ha.run pos pins s σ H _ I h) fun _ _ ⟨_, _, J, r, q⟩ => ⟨J.kIn, run_makeG M F hr hb hd hx J r q⟩) he hpl) hdb)⟩
end
/-! ### calls of static methods; methods with keywords -/
/-- C.m(..), C an own class, m a static method -/
def tSM (C : Addr) (sp : Sp) (dvs : List V) (E : XK) (ta : TE) (t : TA) : TE := fun σ H Q => ta σ H fun x H1 => x = .ref C ∧ t σ H1 fun vs H2 => sp (vs ++ dvs) H2 Q E
/-- o.m(k = v, ..), o an instance of the class at C -/
def tMethK (C : Addr) (m : Str) (sp : Sp) (gV : List V → List V) (E : XK) (ta : TE) (tk : TA) : TE := fun σ H Q => ta σ H fun x H1 => ∃ a dx fs, x = .ref a ∧ H1 a = some (.ins C dx fs) ∧ fs.lookup m = none ∧ tk σ H1 fun zs H2 => sp (x :: gV zs) H2 Q E
/-- the keywords alone, in the order g -/
structure KB0 (K : PySem.W.Frag) (fd : FuncData) (n : Nat) (ps ks : List Str) (g : List Value → List Value) (gV : List V → List V) : Prop where
  to : ∀ (s : Shared) (us ws : List Value), K.In s.heap → us.length = n → (us ++ g ws).length = ps.length → BindsTo s fd ⟨us, ks.zip ws⟩ (ps.zip (us ++ g ws))
  rel : ∀ {zs : List V} {ws : List Value}, Vals zs ws → Vals (gV zs) (g ws)
section
variable {X : Cx} {CX : CXT} {k : Nat} {C p g : Addr} {mc : Value} {sp : Sp} {E : XK} {o e : Expr} {es : List Expr} {f m : Str} {pos apos : Pos} {ta : TE} {t tk : TA} {pl : Sem Bool} {fd : FuncData} {ps ks : List Str} {dvs : List V} {ds : List Value} {kws : List Keyword}
theorem pe_smeth (he : PE X o ta) (r : ClX.CRead X.K C mc) (c : SMet X.K C mc m g) (F : FnG X.prog X.w X.K X.mg X.base CX k g fd ps sp) (hr : RoomG k X.A) (hb : Binds X.K fd ps ds) (hd : Vals dvs ds) (hx : Passes CX X E) (ha : PA X (e :: es) t)
    (hst : starEach (e :: es) X.env = (false, eval e X.env) :: starEach es X.env := by rfl) (hpl : (backTo pos (starEach es X.env)).any (·.1) = false := by rfl)
    (ht : eval (.Call (.Attribute o m apos) (e :: es) [] pos) X.env = (do
      let ov ← eval o X.env
      standAt apos.atName
      let (f, first) ← holding [ov] (getMethod ov m pl)
      callWith pos f first (backTo pos (starEach (e :: es) X.env)) (backToKw pos (keywordEach [] X.env))) := by rfl) :
    PE X (.Call (.Attribute o m apos) (e :: es) [] pos) (tSM C sp dvs E ta t) := by
  refine ⟨fun pins s σ H Q I h => ?_⟩
  refine PySem.W.methodCall_KW (pl := pl) (thn (he.run pins s σ H _ I h) fun u s1 ⟨x, H1, I1, rx, ex, q⟩ => ?_) ht
  subst ex
  obtain rfl : u = Value.ref C := rx
  obtain ⟨p, rest, h1, h2⟩ := c.ex
  refine PySem.W.method_cls I1.kIn r.ga (PySem.W.cls_bind I1.kIn r.rd h1 (wpAny_call (PySem.W.sm_get (s := { s1 with toks := s1.toks + 1 }) I1.kIn h2 (PySem.W.handed_on rfl ?_))))
  have I2 := I1.tok (s1.toks + 1)
  refine PySem.W.callWith_K (first := []) (h₀ := X.base) I2.ok.mod.kin c.kp (thn (ha.run pos pins _ σ H1 _ I2 q) fun us s2 ⟨vs, H2, I3, rv, q2⟩ => ⟨I3.kIn, ?_⟩) hst hpl
  exact run_fnG F hr hb hd hx I3 rv q2
theorem run_kb0 {pins : List (Addr × Obj)} {σ : L2.St} {H : Hp} {s : Shared} {Q : VK} {us ws : List Value} {vs zs : List V} {gg : List Value → List Value} {gV : List V → List V} {n : Nat} (F : FnG X.prog X.w X.K X.mg X.base CX k g fd ps sp) (hr : RoomG k X.A) (hb : KB0 X.K fd n ps ks gg gV) (hx : Passes CX X E)
    (I : Inv X pins σ H s) (hn : us.length = n) (r : Vals vs us) (rz : Vals zs ws) (h : sp (vs ++ gV zs) H Q E) : wpAny (model X.prog X.w) X.A (call (.ref g) us (ks.zip ws)) (EP X pins σ Q) X.xe s :=
  have l : (us ++ gg ws).length = ps.length := by rw [← (r.append (hb.rel rz)).length]; exact F.len h
  wp_er (run_at F hr I.env0 hx I (hb.to s us ws I.kIn hn l) (r.append (hb.rel rz)) h)
theorem pe_methK {gg : List Value → List Value} {gV : List V → List V} (he : PE X o ta) (c : Cls X.K C) (hm : Meth X.K C m g) (F : FnG X.prog X.w X.K X.mg X.base CX k g fd ps sp) (hr : RoomG k X.A) (hb : KB0 X.K fd 1 ps ks gg gV) (hx : Passes CX X E) (hkw : PK X kws tk)
    (hall : (backToKw pos (keywordEach kws X.env)).all (·.1.isSome) = true := by rfl) (hks : (backToKw pos (keywordEach kws X.env)).filterMap (·.1) = ks := by rfl)
    (hpl : ((backTo pos (starEach [] X.env)).any (·.1) || (backToKw pos (keywordEach kws X.env)).any (·.1.isNone)) = false := by rfl)
    (ht : eval (.Call (.Attribute o m apos) [] kws pos) X.env = (do
      let ov ← eval o X.env
      standAt apos.atName
      let (f, first) ← holding [ov] (getMethod ov m pl)
      callWith pos f first (backTo pos (starEach [] X.env)) (backToKw pos (keywordEach kws X.env))) := by rfl) :
    PE X (.Call (.Attribute o m apos) [] kws pos) (tMethK C m sp gV E ta tk) := by
  refine ⟨fun pins s σ H Q I h => ?_⟩
  refine PySem.W.methodCall_KW (pl := pl) (thn (he.run pins s σ H _ I h) fun u s1 ⟨x, H1, I1, rx, a, dx, fs, ex, ea, l, q⟩ => ?_) ht
  subst ex
  obtain rfl : u = Value.ref a := rx
  refine getmeth_ok I1 ea c hm l ?_
  refine PySem.W.callWith_KW0 (first := [.ref a]) (h₀ := X.base) I1.ok.mod.kin hm.kp hall (thn (hkw.run pos pins s1 σ H1 _ I1 q) fun ws s2 ⟨zs, H2, I2, rz, q2⟩ => ⟨I2.kIn, ?_⟩) hpl
  rw [hks]
  exact run_kb0 (us := [.ref a]) (vs := [.ref a]) F hr hb hx I2 rfl (.cons rfl .nil) rz q2
end

/-! ### operators that an own class defines -/
section
variable {X : Cx} {CX : CXT} {k : Nat} {C g : Addr} {sp : Sp} {E : XK} {fd : FuncData} {ps : List Str}
/-- x op y (a comparison), x an instance of the class at C whose def for op is at g -/
def rCmpO (K : PySem.W.Frag) (C : Addr) (sp : Sp) (E : XK) : R2 := fun x y H Q => ∃ a dx fs t, x = .ref a ∧ H a = some (.ins C dx fs) ∧ TyX K H y t ∧ PySem.W.notFirst K C t = true ∧ sp [x, y] H Q E
theorem op_cmpO {op : CmpOp} (hop : ∀ a b, compareOp op a b = richCompare op a b) (hs : OwnM X.K C (cmpInfo op).2.1 g) (F : FnG X.prog X.w X.K X.mg X.base CX k g fd ps sp) (hr : RoomG k X.A) (hb : Binds X.K fd ps []) (hx : Passes CX X E) :
    OpR X (compareOp op) (rCmpO X.K C sp E) := by
  intro pins s σ H x y v u Q I rx ry h
  obtain ⟨a, dx, fs, t, rfl, ha, ty, hn, q⟩ := h
  cases (show v = Value.ref a from rx)
  obtain ⟨mA, O, _⟩ := ins_get I.hok ha
  obtain ⟨od, J, _⟩ := O.look
  obtain ⟨m, hF⟩ := I.fr
  obtain ⟨Pt, Z, pz, _⟩ := kit_of I ry ty
  rw [hop]
  refine PySem.W.cmp_K (op := op) (tb := t) hr.units0 hF I.ok.mod.kin J (Z.ty _ _ I.kIn pz) hn hs.at_ hs.fn ?_
  refine thn (run_fnG (us := [.ref a, u]) (vs := [.ref a, y]) F hr hb .nil hx I (.cons rfl (.cons ry .nil)) q) fun w s' z => ?_
  obtain ⟨z', H', I', rz, qz⟩ := z
  exact SlX.cmpback rz ⟨z', H', I', rz, qz⟩
/-- v in x, x an instance of the class at C with a __contains__ at g -/
def rInO (C : Addr) (neg : Bool) (sp : Sp) (E : XK) : R2 := fun v x H Q => ∃ a dx fs, x = .ref a ∧ H a = some (.ins C dx fs) ∧ sp [x, v] H (fun z H' => ∃ b, z = .bl b ∧ Q (.bl (if neg then !b else b)) H') E
theorem op_inO (hs : OwnM X.K C "__contains__" g) (F : FnG X.prog X.w X.K X.mg X.base CX k g fd ps sp) (hr : RoomG k X.A) (hb : Binds X.K fd ps []) (hx : Passes CX X E) : OpR X (compareOp .In) (rInO C false sp E) := by
  intro pins s σ H v x u w Q I rv rx h
  obtain ⟨a, dx, fs, rfl, ha, q⟩ := h
  cases (show w = Value.ref a from rx)
  obtain ⟨mA, O, _⟩ := ins_get I.hok ha
  obtain ⟨od, J, _⟩ := O.look
  obtain ⟨m, hF⟩ := I.fr
  refine PySem.W.in_K hF I.ok.mod.kin J hs.at_ hs.fn (thn (run_fnG (us := [.ref a, u]) (vs := [.ref a, v]) F hr hb .nil hx I (.cons rfl (.cons rv .nil)) q) fun r s' z => ?_)
  obtain ⟨z', H', I', rz, b, ez, qz⟩ := z
  subst ez
  cases (show r = Value.bool b from rz)
  exact wpAny_truthy_bool ⟨.bl b, H', I', rfl, qz⟩
theorem op_notInO (hs : OwnM X.K C "__contains__" g) (F : FnG X.prog X.w X.K X.mg X.base CX k g fd ps sp) (hr : RoomG k X.A) (hb : Binds X.K fd ps []) (hx : Passes CX X E) : OpR X (compareOp .NotIn) (rInO C true sp E) := by
  intro pins s σ H v x u w Q I rv rx h
  obtain ⟨a, dx, fs, rfl, ha, q⟩ := h
  cases (show w = Value.ref a from rx)
  obtain ⟨mA, O, _⟩ := ins_get I.hok ha
  obtain ⟨od, J, _⟩ := O.look
  obtain ⟨m, hF⟩ := I.fr
  refine PySem.W.notIn_K hF I.ok.mod.kin J hs.at_ hs.fn (thn (run_fnG (us := [.ref a, u]) (vs := [.ref a, v]) F hr hb .nil hx I (.cons rfl (.cons rv .nil)) q) fun r s' z => ?_)
  obtain ⟨z', H', I', rz, b, ez, qz⟩ := z
  subst ez
  cases (show r = Value.bool b from rz)
  exact wpAny_truthy_bool ⟨.bl (!b), H', I', rfl, qz⟩
end
end G
namespace G
open PySem PySem.Spec PyProof.Rows L2
/-! ### sizes of ints -/
/-- below 2 ^ n in size -/
def Bd (n : Nat) (x : Int) : Prop := x.natAbs < 2 ^ n
theorem Bd.mono {n m : Nat} {x : Int} (h : Bd n x) (l : n ≤ m) : Bd m x := Nat.lt_of_lt_of_le h (Nat.pow_le_pow_right (by decide) l)
theorem Bd.lit (x : Int) : Bd (x.natAbs.log2 + 1) x := Nat.lt_log2_self
theorem Bd.of_le {n : Nat} {x y : Int} (h : Bd n y) (l : x.natAbs ≤ y.natAbs) : Bd n x := Nat.lt_of_le_of_lt l h
theorem Bd.mul {a b : Nat} {x y : Int} (h : Bd a x) (k : Bd b y) : Bd (a + b) (x * y) := wide_lt h k
theorem Bd.add {a b : Nat} {x y : Int} (h : Bd a x) (k : Bd b y) : Bd (a + b + 1) (x + y) := by
  have h1 := Bd.mono h (show a ≤ a + b by omega)
  have h2 := Bd.mono k (show b ≤ a + b by omega)
  unfold Bd at *
  have e : (2 : Nat) ^ (a + b + 1) = 2 ^ (a + b) + 2 ^ (a + b) := by rw [Nat.pow_succ]; omega
  rw [e]
  omega
theorem Bd.neg {a : Nat} {x : Int} (h : Bd a x) : Bd a (-x) := by unfold Bd at *; rw [Int.natAbs_neg]; exact h
theorem Bd.sub {a b : Nat} {x y : Int} (h : Bd a x) (k : Bd b y) : Bd (a + b + 1) (x - y) := by rw [Int.sub_eq_add_neg]; exact h.add k.neg
theorem Bd.of_range {n : Nat} {x y : Int} (h0 : 0 ≤ x) (h1 : x ≤ y) (k : Bd n y) : Bd n x := Bd.of_le k (by omega)
theorem log_of {a : Nat} {x : Int} (h : Bd a x) : x.natAbs.log2 ≤ a := by
  by_cases e : a = 0
  · subst e
    have : x.natAbs = 0 := by unfold Bd at h; omega
    rw [this]; decide
  · exact Nat.le_of_lt (PySem.Flt.log2_lt_of (by omega) h)
theorem mulOk {a b : Nat} {x y : Int} (h : Bd a x) (k : Bd b y) (l : a + b < 1000000) : IntMulOk x y := CMulW.ok (by
  have := log_of h
  have := log_of k
  unfold CMulW
  omega)
theorem mulOkL {x y : Int} (h : -(2 ^ 64) < x ∧ x < 2 ^ 64) : IntMulOk x y := CMul.ok (.inl h)
theorem mulOkR {x y : Int} (h : -(2 ^ 64) < y ∧ y < 2 ^ 64) : IntMulOk x y := CMul.ok (.inr h)

/-! ### general operators -/
def CDivG (_ j : Int) : Prop := j ≠ 0 ∧ j.natAbs.log2 < 9000
def rAddG (K : PySem.W.Frag) : R2 := fun x y H Q => (rI0 fun i j => .int (i + j)) x y H Q ∨ (∃ i j, x = .str i ∧ y = .str j ∧ i.length + j.length ≤ sizeLine ∧ Q (.str (i ++ j)) H) ∨ rCatT K x y H Q ∨ rCat x y H Q
def rSubG : R2 := rI0 fun i j => .int (i - j)
def rMulG : R2 := fun x y H Q => (rI IntMulOk fun i j => .int (i * j)) x y H Q ∨ rRep x y H Q
def rDivG : R2 := rI CDivG fun i j => .int (i.fdiv j)
def rModG : R2 := rI (fun _ j => j ≠ 0) fun i j => .int (i.fmod j)
def rPowG : R2 := rI CPow fun i j => .int (i ^ j.toNat)
def rNegG : V → Hp → VK → Prop := rU fun i => .int (-i)
def rLtG : R2 := rI0 fun i j => .bl (decide (i < j))
def rLeG : R2 := rI0 fun i j => .bl (decide (i ≤ j))
def rGtG : R2 := rI0 fun i j => .bl (decide (j < i))
def rGeG : R2 := rI0 fun i j => .bl (decide (j ≤ i))
def rEqG (K : PySem.W.Frag) : R2 := fun x y H Q => rEq x y H Q ∨ rEqD K x y H Q
def rNeG (K : PySem.W.Frag) : R2 := fun x y H Q => rNe x y H Q ∨ rNeD K x y H Q
def rIsNG : R2 := fun x y H Q => y = .non ∧ Q (.bl (decide (x = .non))) H
def rNotNG : R2 := fun x y H Q => y = .non ∧ Q (.bl (!decide (x = .non))) H
def rAbsG : List V → Hp → VK → Prop := fun xs H Q => ∃ i, xs = [.int i] ∧ Q (.int (if i < 0 then -i else i)) H
def rIntG : List V → Hp → VK → Prop := fun xs H Q => (∃ i, xs = [.int i] ∧ Q (.int i) H) ∨ ∃ k, xs = [.bl k] ∧ Q (.int (if k then 1 else 0)) H
def rBoolG : List V → Hp → VK → Prop := fun xs H Q => (∃ i, xs = [.int i] ∧ Q (.bl (i != 0)) H) ∨ ∃ k, xs = [.bl k] ∧ Q (.bl k) H
def rLenG (K : PySem.W.Frag) : List V → Hp → VK → Prop := fun xs H Q => (∃ p ys, xs = [.ref p] ∧ (SqL K H p ys ∨ SqT K H p ys) ∧ Q (.int ys.length) H) ∨ ∃ z, xs = [.str z] ∧ z.length ≤ sizeLine ∧ Q (.int z.length) H
def rListG (K : PySem.W.Frag) : List V → Hp → VK → Prop := fun xs H Q => ∃ p ys, xs = [.ref p] ∧ (SqL K H p ys ∨ SqT K H p ys) ∧ ∀ l, H l = none → Q (.ref l) (upd H l (.lst ys))
def rIsiG (K : PySem.W.Frag) : List V → Hp → VK → Prop := rIsi K
def rSlG (K : PySem.W.Frag) : V → Option Int → Option Int → Hp → VK → Prop := fun x lo hi H Q => rSlL K x lo hi H Q ∨ rSlT K x lo hi H Q ∨ rSlS x lo hi H Q
section
variable {X : Cx}
theorem op_addG : OpR X (binaryOp .Add) (rAddG X.K) := op_add.or (op_add_str.or (op_catT.or op_cat))
theorem op_subG : OpR X (binaryOp .Sub) rSubG := op_sub
theorem op_mulG : OpR X (binaryOp .Mult) rMulG := OpR.or (opI fun _ _ _ _ _ _ _ hc q => mul_int q hc) op_rep
theorem op_divG : OpR X (binaryOp .FloorDiv) rDivG := opI fun _ _ _ _ _ _ _ hc q => floordiv_int hc.1 q (.inl (PyProof.noPylong_of_log2 hc.2))
theorem op_modG : OpR X (binaryOp .Mod) rModG := op_modN
theorem op_powG : OpR X (binaryOp .Pow) rPowG := op_pow
theorem un_negG : UnR X (unaryOp .USub) rNegG := un_neg
theorem op_ltG : OpR X (compareOp .Lt) rLtG := op_lt
theorem op_leG : OpR X (compareOp .LtE) rLeG := op_le
theorem op_gtG : OpR X (compareOp .Gt) rGtG := op_gt
theorem op_geG : OpR X (compareOp .GtE) rGeG := op_ge
theorem op_eqG (hu : X.A.units + 64 < cLine) : OpR X (compareOp .Eq) (rEqG X.K) := op_eq.or (op_eqD hu)
theorem op_neG (hu : X.A.units + 64 < cLine) : OpR X (compareOp .NotEq) (rNeG X.K) := op_ne.or (op_neD hu)
theorem op_isNG : OpR X (compareOp .Is) rIsNG := op_isN
theorem op_notNG : OpR X (compareOp .IsNot) rNotNG := op_notN
theorem call_absG : CallR X (.builtin "abs") rAbsG := call_abs
theorem call_intG : CallR X (.type "int") rIntG := call_int1
theorem call_boolG : CallR X (.type "bool") rBoolG := call_bool1
theorem call_lenG : CallR X (.builtin "len") (rLenG X.K) := call_len_seq.or call_len_str
theorem call_listG : CallR X (.type "list") (rListG X.K) := call_list_of
theorem call_isiG : CallR X (.builtin "isinstance") (rIsiG X.K) := call_isi
theorem sl_G : SlR X (rSlG X.K) := sl_list.or (sl_tup.or sl_str)
end

/-! ### step lemmas -/
def ParK (i j : Nat) (vs : List V) (σ : L2.St) (H1 : Hp) (n : L2.St → Hp → Prop) : Prop := ∃ v w, vs = [v, w] ∧ n ((σ.set i (some v)).set j (some w)) H1
def SFldK (K : PySem.W.Frag) (f : Str) (x y : V) (H : Hp) (R : Hp → Prop) : Prop := ∃ a C dx fs, x = .ref a ∧ H a = some (.ins C dx fs) ∧ Cls K C ∧ NoAttr K C f ∧ fs.length < 1000 ∧ R (upd H a (.ins C dx (putF f y fs)))
def BmK (K : PySem.W.Frag) (T : String) (x : V) (H : Hp) (P : Prop) : Prop := tyV K T x H ∧ P
section
variable {K : PySem.W.Frag} {σ σ' : L2.St} {H : Hp} {Q : VK} {v x y : V} {i : Nat} {ta tb tc te to ti : TE} {tt uu : TT} {t u ts : TS} {tl : TA} {n : L2.St → Hp → Prop} {r : VK} {b c : L2.St → Hp → Prop} {a p : Addr} {xs ys : List V} {k j : Int} {bb : Bool}
theorem st_var (h : σ[i]? = some (some v)) (q : Q v H) : tVar i σ H Q := ⟨v, h, q⟩
theorem st_c (q : Q v H) : tC v σ H Q := q
theorem st_op {rr : R2} (q : ta σ H fun x H1 => tb σ H1 fun y H2 => rr x y H2 Q) : tOp rr ta tb σ H Q := q
theorem st_un {rr : V → Hp → VK → Prop} (q : ta σ H fun x H1 => rr x H1 Q) : tUn rr ta σ H Q := q
theorem st_test {R : Bool → Hp → Prop} (q : te σ H fun x H' => ∃ k, x = .bl k ∧ R k H') : tTest te σ H R := q
theorem st_B {R : Bool → Hp → Prop} (q : te σ H fun x H' => ∃ k, x = .bl k ∧ R k H') : tB te σ H R := q
theorem st_exbl {R : Bool → Hp → Prop} (q : R bb H) : ∃ k, V.bl bb = V.bl k ∧ R k H := ⟨bb, rfl, q⟩
theorem st_exblP {R : Bool → Prop} (q : R bb) : ∃ k, V.bl bb = V.bl k ∧ R k := ⟨bb, rfl, q⟩
theorem st_and {R : Bool → Hp → Prop} (q : tt σ H fun c H1 => if c = true then uu σ H1 R else R false H1) : tAnd tt uu σ H R := q
theorem st_or {R : Bool → Hp → Prop} (q : tt σ H fun c H1 => if c = true then R true H1 else uu σ H1 R) : tOr tt uu σ H R := q
theorem st_not {R : Bool → Hp → Prop} (q : tt σ H fun c H1 => R (!c) H1) : tNot tt σ H R := q
theorem st_andV (q : ta σ H fun x H1 => ∃ c, x = .bl c ∧ if c = true then tb σ H1 Q else Q (.bl false) H1) : tAndV ta tb σ H Q := q
theorem st_orV (q : ta σ H fun x H1 => ∃ c, x = .bl c ∧ if c = true then Q (.bl true) H1 else tb σ H1 Q) : tOrV ta tb σ H Q := q
theorem st_notV (q : ta σ H fun x H1 => ∃ c, x = .bl c ∧ Q (.bl (!c)) H1) : tNotV ta σ H Q := q
theorem st_ifE (q : tt σ H fun c H1 => if c = true then ta σ H1 Q else tb σ H1 Q) : tIf tt ta tb σ H Q := q
theorem st_ite {A B : Prop} (h1 : bb = true → A) (h2 : bb = false → B) : if bb = true then A else B := by
  cases bb with
  | true => rw [if_pos rfl]; exact h1 rfl
  | false => rw [if_neg Bool.false_ne_true]; exact h2 rfl
theorem st_iteT {A B : Prop} (h : A) : if true = true then A else B := by rw [if_pos rfl]; exact h
theorem st_iteF {A B : Prop} (h : B) : if false = true then A else B := by rw [if_neg Bool.false_ne_true]; exact h
theorem st_chain {r1 r2 : R2} (q : ta σ H fun x H1 => tb σ H1 fun y H2 => r1 x y H2 fun z H3 => ∃ k, z = .bl k ∧ (if k = true then tc σ H3 fun w' H4 => r2 y w' H4 Q else Q (.bl false) H3)) : tChain r1 r2 ta tb tc σ H Q := q
theorem st_nil {R : List V → Hp → Prop} (q : R [] H) : tNil σ H R := q
theorem st_cons {R : List V → Hp → Prop} (q : ta σ H fun x H1 => tl σ H1 fun xs H2 => R (x :: xs) H2) : tCons ta tl σ H R := q
/-- a new tuple, a new list -/
def TupK (xs : List V) (H : Hp) (Q : VK) : Prop := xs.length ≤ sizeLine ∧ ∀ p, H p = none → Q (.ref p) (upd H p (.tup xs))
def LstK (xs : List V) (H : Hp) (Q : VK) : Prop := xs.length ≤ sizeLine ∧ ∀ p, H p = none → Q (.ref p) (upd H p (.lst xs))
theorem st_tup (q : tl σ H fun xs H1 => TupK xs H1 Q) : tTup tl σ H Q := q
theorem st_lst (q : tl σ H fun xs H1 => LstK xs H1 Q) : tLst tl σ H Q := q
theorem sz1000 {n : Nat} (h : n ≤ 1000) : n ≤ sizeLine := Nat.le_trans h (by decide)
theorem st_tupK (h : xs.length ≤ 1000) (q : ∀ p H', H p = none → Kp H H' → H' p = some (.tup xs) → Q (.ref p) H') : TupK xs H Q := ⟨sz1000 h, fun p e => q p _ e (Kp.new e) upd_same⟩
theorem st_lstK (h : xs.length ≤ 1000) (q : ∀ p H', H p = none → Kp H H' → H' p = some (.lst xs) → Q (.ref p) H') : LstK xs H Q := ⟨sz1000 h, fun p e => q p _ e (Kp.new e) upd_same⟩
/-- calls -/
theorem st_call {sp : Sp} {E : XK} (q : tl σ H fun vs H1 => sp vs H1 Q E) : tCall sp [] E tl σ H Q := by
  unfold tCall
  simp only [List.append_nil]
  exact q
theorem st_sm {C : Addr} {sp : Sp} {E : XK} (q : tl σ H fun vs H1 => sp vs H1 Q E) : tSM C sp [] E (tC (.ref C)) tl σ H Q := by
  refine ⟨rfl, ?_⟩
  simp only [List.append_nil]
  exact q
theorem st_cb {R : List V → Hp → VK → Prop} (q : tl σ H fun vs H1 => R vs H1 Q) : tCB R tl σ H Q := q
/-- what a method's call asks of its receiver -/
def RecvK (C : Addr) (m : Str) (x : V) (H : Hp) (R : Prop) : Prop := ∃ a dx fs, x = .ref a ∧ H a = some (.ins C dx fs) ∧ fs.lookup m = none ∧ R
theorem st_meth {C : Addr} {m : Str} {sp : Sp} {E : XK} (q : ta σ H fun x H1 => RecvK C m x H1 (tl σ H1 fun vs H2 => sp (x :: vs) H2 Q E)) : tMeth C m sp [] E ta tl σ H Q := by
  unfold tMeth
  simp only [List.append_nil]
  exact q
theorem st_methK {C : Addr} {m : Str} {sp : Sp} {E : XK} {gV : List V → List V} {tk : TA} (q : ta σ H fun x H1 => RecvK C m x H1 (tk σ H1 fun zs H2 => sp (x :: gV zs) H2 Q E)) : tMethK C m sp gV E ta tk σ H Q := q
theorem st_recv {C dx : Addr} {m : Str} {fs : List (Str × V)} {R : Prop} (h : H a = some (.ins C dx fs)) (l : fs.lookup m = none) (q : R) : RecvK C m (.ref a) H R := ⟨a, dx, fs, rfl, h, l, q⟩
/-- an attribute -/
def FldK (K : PySem.W.Frag) (f : Str) (x : V) (H : Hp) (Q : VK) : Prop := ∃ a C dx fs v, x = .ref a ∧ H a = some (.ins C dx fs) ∧ Cls K C ∧ NoAttr K C f ∧ fs.lookup f = some v ∧ Q v H
theorem st_fld {f : Str} (q : ta σ H fun x H1 => FldK K f x H1 Q) : tFld K ta f σ H Q := q
theorem st_fldK {C dx : Addr} {f : Str} {fs : List (Str × V)} (h : H a = some (.ins C dx fs)) (c : Cls K C) (na : NoAttr K C f) (l : fs.lookup f = some v) (q : Q v H) : FldK K f (.ref a) H Q := ⟨a, C, dx, fs, v, rfl, h, c, na, l, q⟩
/-! operators on values -/
theorem add_ii (q : Q (.int (k + j)) H) : rAddG K (.int k) (.int j) H Q := .inl ⟨k, j, rfl, rfl, q⟩
theorem add_ss {z w : Str} (h : z.length + w.length ≤ sizeLine) (q : Q (.str (z ++ w)) H) : rAddG K (.str z) (.str w) H Q := .inr (.inl ⟨z, w, rfl, rfl, h, q⟩)
theorem eq_t2 {d : Addr} {i0 i1 j0 j1 : Int} (h1 : SqT K H a [.int i0, .int i1]) (h2 : SqT K H d [.int j0, .int j1]) (q : Q (.bl (decide (i0 = j0 ∧ i1 = j1))) H) : rEqG K (.ref a) (.ref d) H Q :=
  .inr ⟨_, _, .tup h1 (.cons (.int _) (.cons (.int _) .nil)), .tup h2 (.cons (.int _) (.cons (.int _) .nil)), by rfl, by rfl, by
    have e : PyData.eqv (.tuple [.int i0, .int i1]) (.tuple [.int j0, .int j1]) = decide (i0 = j0 ∧ i1 = j1) := by simp [PyData.eqv, PyData.eqvAll, Bool.beq_eq_decide_eq]
    rw [e]
    exact q⟩
theorem ne_t2 {d : Addr} {i0 i1 j0 j1 : Int} (h1 : SqT K H a [.int i0, .int i1]) (h2 : SqT K H d [.int j0, .int j1]) (q : Q (.bl (!decide (i0 = j0 ∧ i1 = j1))) H) : rNeG K (.ref a) (.ref d) H Q :=
  .inr ⟨_, _, .tup h1 (.cons (.int _) (.cons (.int _) .nil)), .tup h2 (.cons (.int _) (.cons (.int _) .nil)), by rfl, by rfl, by
    have e : PyData.eqv (.tuple [.int i0, .int i1]) (.tuple [.int j0, .int j1]) = decide (i0 = j0 ∧ i1 = j1) := by simp [PyData.eqv, PyData.eqvAll, Bool.beq_eq_decide_eq]
    rw [e]
    exact q⟩
theorem in_s2 {z s1 s2 : Str} (h : SqT K H a [.str s1, .str s2]) (q : Q (.bl (decide (z = s1) || decide (z = s2))) H) : rIn K false (.str z) (.ref a) H Q := ⟨a, _, rfl, .inr h, rfl, rfl, by
  have e : inV (.str z) [.str s1, .str s2] = (decide (z = s1) || decide (z = s2)) := by
    have e1 : ∀ w : Str, eqV (.str w) (.str z) = decide (z = w) := fun w => by
      show (w == z) = decide (z = w)
      by_cases e : z = w
      · subst e; simp
      · rw [decide_eq_false e]; exact beq_eq_false_iff_ne.mpr (Ne.symm e)
    simp [inV, e1]
  show Q (.bl (if false = true then !inV (.str z) [.str s1, .str s2] else inV (.str z) [.str s1, .str s2])) H
  rw [if_neg Bool.false_ne_true, e]
  exact q⟩
theorem add_tt {d : Addr} {zs : List V} (h1 : SqT K H a xs) (h2 : SqT K H d ys) (n1 : xs ≠ []) (n2 : ys ≠ []) (l : xs.length + ys.length ≤ 1000) (e : xs ++ ys = zs) (q : ∀ p H', H p = none → Kp H H' → H' p = some (.tup zs) → Q (.ref p) H') : rAddG K (.ref a) (.ref d) H Q :=
  .inr (.inr (.inl ⟨a, d, xs, ys, rfl, rfl, h1, h2, n1, sz1000 l, fun e => absurd e n2, fun _ p n => q p _ n (Kp.new n) (by rw [upd_same, e])⟩))
theorem add_ll {d : Addr} (h1 : H a = some (.lst xs)) (h2 : H d = some (.lst ys)) (l : xs.length + ys.length ≤ 1000) (q : ∀ p H', H p = none → Kp H H' → H' p = some (.lst (xs ++ ys)) → Q (.ref p) H') : rAddG K (.ref a) (.ref d) H Q :=
  .inr (.inr (.inr ⟨a, d, xs, ys, rfl, rfl, h1, h2, sz1000 l, fun p e => q p _ e (Kp.new e) upd_same⟩))
theorem sub_ii (q : Q (.int (k - j)) H) : rSubG (.int k) (.int j) H Q := ⟨k, j, rfl, rfl, q⟩
theorem mul_ii (h : IntMulOk k j) (q : Q (.int (k * j)) H) : rMulG (.int k) (.int j) H Q := .inl ⟨k, j, rfl, rfl, h, q⟩
theorem div_ii {m : Nat} (h0 : 0 < j) (h : Bd m j) (l : m < 9000) (q : Q (.int (k / j)) H) : rDivG (.int k) (.int j) H Q := ⟨k, j, rfl, rfl, ⟨by omega, Nat.lt_of_le_of_lt (log_of h) l⟩, by show Q (.int (k.fdiv j)) H; rw [Int.fdiv_eq_ediv_of_nonneg k (by omega)]; exact q⟩
theorem fdiv_ii {m : Nat} (h0 : j ≠ 0) (h : Bd m j) (l : m < 9000) (q : Q (.int (k.fdiv j)) H) : rDivG (.int k) (.int j) H Q := ⟨k, j, rfl, rfl, ⟨h0, Nat.lt_of_le_of_lt (log_of h) l⟩, q⟩
theorem mod_ii (h0 : 0 < j) (q : Q (.int (k % j)) H) : rModG (.int k) (.int j) H Q := ⟨k, j, rfl, rfl, by omega, by show Q (.int (k.fmod j)) H; rw [Int.fmod_eq_emod_of_nonneg k (by omega)]; exact q⟩
theorem fmod_ii (h0 : j ≠ 0) (q : Q (.int (k.fmod j)) H) : rModG (.int k) (.int j) H Q := ⟨k, j, rfl, rfl, h0, q⟩
theorem pow_ii {z : Int} (h : CPow k j) (e : k ^ j.toNat = z) (q : Q (.int z) H) : rPowG (.int k) (.int j) H Q := ⟨k, j, rfl, rfl, h, by show Q (.int (k ^ j.toNat)) H; rw [e]; exact q⟩
theorem neg_i (q : Q (.int (-k)) H) : rNegG (.int k) H Q := ⟨k, rfl, q⟩
theorem lt_ii (q : Q (.bl (decide (k < j))) H) : rLtG (.int k) (.int j) H Q := ⟨k, j, rfl, rfl, q⟩
theorem le_ii (q : Q (.bl (decide (k ≤ j))) H) : rLeG (.int k) (.int j) H Q := ⟨k, j, rfl, rfl, q⟩
theorem gt_ii (q : Q (.bl (decide (j < k))) H) : rGtG (.int k) (.int j) H Q := ⟨k, j, rfl, rfl, q⟩
theorem ge_ii (q : Q (.bl (decide (j ≤ k))) H) : rGeG (.int k) (.int j) H Q := ⟨k, j, rfl, rfl, q⟩
theorem dec_i : decide (V.int k = V.int j) = decide (k = j) := by by_cases e : k = j <;> simp [e]
theorem dec_s {z w : Str} : decide (V.str z = V.str w) = decide (z = w) := by by_cases e : z = w <;> simp [e]
theorem dec_b {f g : Bool} : decide (V.bl f = V.bl g) = decide (f = g) := by by_cases e : f = g <;> simp [e]
theorem eq_ii (q : Q (.bl (decide (k = j))) H) : rEqG K (.int k) (.int j) H Q := .inl ⟨rfl, by rw [dec_i]; exact q⟩
theorem eq_ss {z w : Str} (q : Q (.bl (decide (z = w))) H) : rEqG K (.str z) (.str w) H Q := .inl ⟨rfl, by rw [dec_s]; exact q⟩
theorem eq_bb {f g : Bool} (q : Q (.bl (decide (f = g))) H) : rEqG K (.bl f) (.bl g) H Q := .inl ⟨rfl, by rw [dec_b]; exact q⟩
theorem ne_ii (q : Q (.bl (!decide (k = j))) H) : rNeG K (.int k) (.int j) H Q := .inl ⟨rfl, by rw [dec_i]; exact q⟩
theorem ne_ss {z w : Str} (q : Q (.bl (!decide (z = w))) H) : rNeG K (.str z) (.str w) H Q := .inl ⟨rfl, by rw [dec_s]; exact q⟩
theorem ne_bb {f g : Bool} (q : Q (.bl (!decide (f = g))) H) : rNeG K (.bl f) (.bl g) H Q := .inl ⟨rfl, by rw [dec_b]; exact q⟩
theorem eq_dd {d e : PyData} (h1 : Dp K H x d) (h2 : Dp K H y e) (s1 : SeqAt.shaped d = true) (s2 : SeqAt.shaped e = true) (q : Q (.bl (PyData.eqv d e)) H) : rEqG K x y H Q := .inr ⟨d, e, h1, h2, s1, s2, q⟩
theorem ne_dd {d e : PyData} (h1 : Dp K H x d) (h2 : Dp K H y e) (s1 : SeqAt.shaped d = true) (s2 : SeqAt.shaped e = true) (q : Q (.bl (!PyData.eqv d e)) H) : rNeG K x y H Q := .inr ⟨d, e, h1, h2, s1, s2, q⟩
theorem isN_n (q : Q (.bl (decide (x = .non))) H) : rIsNG x .non H Q := ⟨rfl, q⟩
theorem notN_n (q : Q (.bl (!decide (x = .non))) H) : rNotNG x .non H Q := ⟨rfl, q⟩
theorem abs_i (q : Q (.int ((k.natAbs : Nat) : Int)) H) : rAbsG [.int k] H Q := ⟨k, rfl, by
  have e : (if k < 0 then -k else k) = ((k.natAbs : Nat) : Int) := by split <;> omega
  rw [e]
  exact q⟩
theorem int_i (q : Q (.int k) H) : rIntG [.int k] H Q := .inl ⟨k, rfl, q⟩
theorem int_b (q : Q (.int (if bb then 1 else 0)) H) : rIntG [.bl bb] H Q := .inr ⟨bb, rfl, q⟩
theorem bool_i (q : Q (.bl (decide (k ≠ 0))) H) : rBoolG [.int k] H Q := .inl ⟨k, rfl, by
  have e : (k != 0) = decide (k ≠ 0) := by by_cases h : k = 0 <;> simp [h]
  rw [e]
  exact q⟩
theorem bool_b (q : Q (.bl bb) H) : rBoolG [.bl bb] H Q := .inr ⟨bb, rfl, q⟩
theorem len_l (h : SqL K H a xs) (q : Q (.int xs.length) H) : rLenG K [.ref a] H Q := .inl ⟨a, xs, rfl, .inl h, q⟩
theorem len_t (h : SqT K H a xs) (q : Q (.int xs.length) H) : rLenG K [.ref a] H Q := .inl ⟨a, xs, rfl, .inr h, q⟩
theorem len_s {z : Str} (h : z.length ≤ sizeLine) (q : Q (.int z.length) H) : rLenG K [.str z] H Q := .inr ⟨z, rfl, h, q⟩
theorem list_l (h : SqL K H a xs) (q : ∀ p H', H p = none → Kp H H' → H' p = some (.lst xs) → Q (.ref p) H') : rListG K [.ref a] H Q := ⟨a, xs, rfl, .inl h, fun p e => q p _ e (Kp.new e) upd_same⟩
theorem list_t (h : SqT K H a xs) (q : ∀ p H', H p = none → Kp H H' → H' p = some (.lst xs) → Q (.ref p) H') : rListG K [.ref a] H Q := ⟨a, xs, rfl, .inr h, fun p e => q p _ e (Kp.new e) upd_same⟩
theorem isi_ty {tv : Value} {cn : String} {bo : Bool} (ty : TyX K H x tv) (h : PySem.W.kitOne K tv (.type cn) = some bo) (q : Q (.bl bo) H) : rIsiG K [x, .ty cn] H Q := ⟨x, .ty cn, tv, .type cn, bo, rfl, .ty cn, ty, h, q⟩
theorem isi_cl {tv : Value} {C : Addr} {bo : Bool} (ty : TyX K H x tv) (h : PySem.W.kitOne K tv (.ref C) = some bo) (q : Q (.bl bo) H) : rIsiG K [x, .ref C] H Q := ⟨x, .ref C, tv, .ref C, bo, rfl, .own C, ty, h, q⟩
theorem ix_l (h : SqL K H a xs) (e : atI xs k = some v) (q : Q v H) : rIx K (.ref a) (.int k) H Q := .inl ⟨a, xs, k, v, rfl, rfl, h, e, q⟩
theorem ix_t (h : SqT K H a xs) (e : atI xs k = some v) (q : Q v H) : rIx K (.ref a) (.int k) H Q := .inr (.inl ⟨a, xs, k, v, rfl, rfl, h, e, q⟩)
/-! slices -/
theorem st_sl {rs : V → Option Int → Option Int → Hp → VK → Prop} {t1 t2 : TO} (q : te σ H fun x H1 => t1 σ H1 fun l H2 => t2 σ H2 fun u H3 => rs x l u H3 Q) : tSl rs te t1 t2 σ H Q := q
theorem st_noPart {R : Option Int → Hp → Prop} (q : R none H) : tNoPart σ H R := q
theorem st_part {R : Option Int → Hp → Prop} (q : te σ H fun x H1 => ∃ i, x = .int i ∧ R (some i) H1) : tPart te σ H R := q
theorem st_exint {R : Int → Hp → Prop} (q : R k H) : ∃ i, V.int k = V.int i ∧ R i H := ⟨k, rfl, q⟩
theorem st_exintP {R : Int → Prop} (q : R k) : ∃ i, V.int k = V.int i ∧ R i := ⟨k, rfl, q⟩
theorem sl_l {lo hi : Option Int} (h : SqL K H a xs) (q : ∀ p H', H p = none → Kp H H' → H' p = some (.lst (cutV xs lo hi)) → Q (.ref p) H') : rSlG K (.ref a) lo hi H Q := .inl ⟨a, xs, rfl, h, fun p e => q p _ e (Kp.new e) upd_same⟩
theorem sl_t {lo hi : Option Int} (h : SqT K H a xs) (l : ¬ (HT.sIx xs.length 0 lo = 0 ∧ HT.sIx xs.length xs.length hi = xs.length)) (q : ∀ p H', H p = none → Kp H H' → H' p = some (.tup (cutV xs lo hi)) → Q (.ref p) H') : rSlG K (.ref a) lo hi H Q :=
  .inr (.inl ⟨a, xs, rfl, h, l, fun p e => q p _ e (Kp.new e) upd_same⟩)
/-! statements -/
theorem st_seq (q : t ⟨u ⟨n, r, b, c⟩, r, b, c⟩ σ H) : tSeq t u ⟨n, r, b, c⟩ σ H := q
theorem st_next (q : n σ H) : tNext ⟨n, r, b, c⟩ σ H := q
theorem st_brk (q : b σ H) : tBreak ⟨n, r, b, c⟩ σ H := q
theorem st_cont (q : c σ H) : tCont ⟨n, r, b, c⟩ σ H := q
theorem st_drop (q : te σ H fun _ H1 => n σ H1) : tDrop te ⟨n, r, b, c⟩ σ H := q
theorem st_ret (q : te σ H r) : tRet te ⟨n, r, b, c⟩ σ H := q
theorem st_retN (q : r .non H) : tRetN ⟨n, r, b, c⟩ σ H := q
theorem st_ifS (q : tt σ H fun e H1 => if e = true then t ⟨n, r, b, c⟩ σ H1 else u ⟨n, r, b, c⟩ σ H1) : tIfS tt t u ⟨n, r, b, c⟩ σ H := q
theorem st_asg {g : TG} (q : te σ H fun x H1 => g x σ H1 n) : tAsg te g ⟨n, r, b, c⟩ σ H := q
theorem st_gname (e : σ.set i (some v) = σ') (q : n σ' H) : gName i v σ H n := by subst e; exact q
theorem st_par {i j : Nat} (q : tl σ H fun vs H1 => ParK i j vs σ H1 n) : tPar i j tl ⟨n, r, b, c⟩ σ H := q
theorem st_parK {i j : Nat} (e : (σ.set i (some x)).set j (some y) = σ') (q : n σ' H) : ParK i j [x, y] σ H n := ⟨x, y, rfl, by rw [e]; exact q⟩
theorem st_gtup {m : Nat} {g : TGs} (h : SqT K H a xs) (l : xs.length = m) (q : g xs σ H n) : gTup K m g (.ref a) σ H n := ⟨a, xs, rfl, h, l, q⟩
theorem st_gcons {g : TG} {gs : TGs} (q : g v σ H fun σ' H' => gs xs σ' H' n) : gCons g gs (v :: xs) σ H n := ⟨v, xs, rfl, q⟩
theorem st_gnil (q : n σ H) : gNil [] σ H n := ⟨rfl, q⟩
theorem st_gsub {g : TSet} (q : to σ H fun o H1 => ti σ H1 fun i H2 => g o i v H2 fun H3 => n σ H3) : gSub to ti g v σ H n := q
theorem st_setL {R : Hp → Prop} {m : Nat} (h : H a = some (.lst xs)) (l : ixN xs.length k = some m) (e : xs.set m v = ys) (q : ∀ H', Md a H H' → H' a = some (.lst ys) → R H') : rSetL (.ref a) (.int k) v H R := ⟨a, xs, k, m, rfl, rfl, h, l, q _ (Md.upd h) (by rw [e]; exact upd_same)⟩
theorem st_setfld {f : Str} (q : te σ H fun y H1 => ta σ H1 fun x H2 => SFldK K f x y H2 (n σ)) : sFld K ta te f ⟨n, r, b, c⟩ σ H := q
theorem st_setfldK {C dx : Addr} {f : Str} {fs : List (Str × V)} {R : Hp → Prop} (h : H a = some (.ins C dx fs)) (cl : Cls K C) (na : NoAttr K C f) (l : fs.length < 1000) (q : R (upd H a (.ins C dx (putF f y fs)))) : SFldK K f (.ref a) y H R := ⟨a, C, dx, fs, rfl, h, cl, na, l, q⟩
/-- xs.append(y) -/
theorem st_bm {T : String} {R : V → List V → Hp → VK → Prop} (q : to σ H fun x H1 => BmK K T x H1 (tl σ H1 fun xs H2 => R x xs H2 Q)) : tBM K T R to tl σ H Q := q
theorem bm_list {P : Prop} (h : H a = some (.lst xs)) (q : P) : BmK K "list" (.ref a) H P := ⟨.inl ⟨rfl, _, SqL.of h⟩, q⟩
theorem append_l (h : H a = some (.lst xs)) (l : xs.length < sizeLine) (q : ∀ H', Md a H H' → H' a = some (.lst (xs ++ [v])) → Q .non H') : rAppend (.ref a) [v] H Q := ⟨a, xs, v, rfl, rfl, h, l, q _ (Md.upd h) upd_same⟩
theorem st_never : False → tNever ⟨n, r, b, c⟩ σ H := False.elim
end
end G
namespace G
open PySem PySem.Spec PyProof.Rows L2
section
variable {X : Cx} {x : Str} {pos : Pos} {C : Addr} {T : String}
theorem pe_ty (hg : Gl X x) (hm : X.mg x = none) (hv : bootBuiltins x = some (.type T)) (hn : x ≠ "__name__" := by decide) (hd : (x == ("__debug__" : Str)) = false := by decide) : PE X (.Name x pos) (tC (.ty T)) := pe_bltn hg hm hv rfl hn hd
theorem pe_cl (hg : Gl X x) (hm : X.mg x = some (.ref C)) (hd : (x == ("__debug__" : Str)) = false := by decide) : PE X (.Name x pos) (tC (.ref C)) := pe_glob hg hm rfl hd
end
end G
namespace G
open PySem PySem.Spec PyProof.Rows L2
theorem st_start {N : List Str} {vs : List V} {t : TS} {D : Ends} {σ' : L2.St} {H : Hp} (e : start N vs = σ') (q : t D σ' H) : t D (start N vs) H := by subst e; exact q
end G
namespace G
open PySem PySem.Spec PyProof.Rows L2
section
variable {K : PySem.W.Frag} {σ σ' : L2.St} {H : Hp} {Q : VK} {tt : TT} {ts : TS} {tl : TA} {n : L2.St → Hp → Prop} {r : VK} {b c : L2.St → Hp → Prop}
def WhK (W : Nat → L2.St → Hp → Prop) (m : Nat) (ts : TS) (r : VK) (n : L2.St → Hp → Prop) (σ : L2.St) (H : Hp) : Prop := ∃ N : L2.St → Hp → Prop, (∀ σ' H', N σ' H' → ∃ m', m' < m ∧ W m' σ' H') ∧ ts ⟨N, r, n, N⟩ σ H
/-- while: W at some measure holds at the start; a turn brings it to a lesser one -/
theorem st_while (W : Nat → L2.St → Hp → Prop) (m0 : Nat) (h0 : W m0 σ H) (hs : ∀ m σ H, W m σ H → tt σ H fun e H1 => if e = true then WhK W m ts r n σ H1 else n σ H1) : tWhile tt ts ⟨n, r, b, c⟩ σ H := ⟨W, ⟨m0, h0⟩, fun m σ H w => hs m σ H w⟩
theorem st_whK {W : Nat → L2.St → Hp → Prop} {m : Nat} (q : ts ⟨fun σ' H' => ∃ m', m' < m ∧ W m' σ' H', r, n, fun σ' H' => ∃ m', m' < m ∧ W m' σ' H'⟩ σ H) : WhK W m ts r n σ H := ⟨_, fun _ _ h => h, q⟩
/-- the making of an instance -/
def MakeK (C : Addr) (sp : Sp) (dvs : List V) (E : XK) (vs : List V) (H : Hp) (Q : VK) : Prop := ∀ x dx, H x = none → H dx = none → dx ≠ x → sp (.ref x :: (vs ++ dvs)) (upd (upd H dx (.own x)) x (.ins C dx [])) (fun v H2 => v = .non ∧ Q (.ref x) H2) E
theorem st_mk {C : Addr} {sp : Sp} {dvs : List V} {E : XK} (q : tl σ H fun vs H1 => MakeK C sp dvs E vs H1 Q) : tMake C sp dvs E tl σ H Q := q
theorem st_mkK {C : Addr} {sp : Sp} {dvs : List V} {E : XK} {vs : List V} (q : ∀ x dx H', H x = none → Kp H H' → H' x = some (.ins C dx []) → sp (.ref x :: (vs ++ dvs)) H' (fun v H2 => v = .non ∧ Q (.ref x) H2) E) : MakeK C sp dvs E vs H Q :=
  fun x dx nx nd ne => q x dx _ nx (.of fun b o e => by rw [upd_ne (ne_of_none e nx), upd_ne (ne_of_none e nd)]; exact e) upd_same
/-! for: the walked thing -/
def ForK (J : It) (g : TG) (ts : TS) (n : L2.St → Hp → Prop) (r : VK) (b c : L2.St → Hp → Prop) (σ : L2.St) (H1 : Hp) : Prop := ∃ W : Nat → Nat → L2.St → Hp → Prop, (∃ m, W 0 m σ H1) ∧ ∀ i m σ H, W i m σ H →
  (J.stop i H ∧ n σ H) ∨ (J.go i H ∧ ∃ N : L2.St → Hp → Prop, (∀ σ' H', N σ' H' → ∃ m', m' < m ∧ W (i + 1) m' σ' H') ∧ ∀ x H', J.yld i H x H' → g x σ H' fun σ2 H2 => ts ⟨N, r, n, N⟩ σ2 H2)
def ILK (K : PySem.W.Frag) (x : V) (H : Hp) (R : It → Hp → Prop) : Prop := ∃ a, x = .ref a ∧ (∃ xs, SqL K H a xs) ∧ R (Itl K a) H
def R1K (vs : List V) (H : Hp) (R : It → Hp → Prop) : Prop := ∃ j : Int, vs = [.int j] ∧ -(2 ^ 62) ≤ j ∧ j < 2 ^ 62 ∧ R (Itr 0 j.toNat) H
def R2K (vs : List V) (H : Hp) (R : It → Hp → Prop) : Prop := ∃ i j : Int, vs = [.int i, .int j] ∧ (-(2 ^ 62) ≤ i ∧ i < 2 ^ 62 ∧ -(2 ^ 62) ≤ j ∧ j < 2 ^ 62) ∧ R (Itr i (j - i).toNat) H
theorem st_for {wi : TI} {g : TG} (q : wi σ H fun J H1 => ForK J g ts n r b c σ H1) : tFor wi g ts ⟨n, r, b, c⟩ σ H := q
theorem st_iList {te : TE} {R : It → Hp → Prop} (q : te σ H fun x H1 => ILK K x H1 R) : iList K te σ H R := q
theorem st_iLK {a : Addr} {xs : List V} {R : It → Hp → Prop} (h : SqL K H a xs) (q : R (Itl K a) H) : ILK K (.ref a) H R := ⟨a, rfl, ⟨xs, h⟩, q⟩
theorem st_r1 {R : It → Hp → Prop} (q : tl σ H fun vs H1 => R1K vs H1 R) : iRng1 tl σ H R := q
theorem st_r2 {R : It → Hp → Prop} (q : tl σ H fun vs H1 => R2K vs H1 R) : iRng2 tl σ H R := q
theorem st_r1K {j : Int} {R : It → Hp → Prop} (h1 : -(2 ^ 62) ≤ j) (h2 : j < 2 ^ 62) (q : R (Itr 0 j.toNat) H) : R1K [.int j] H R := ⟨j, rfl, h1, h2, q⟩
theorem st_r2K {i j : Int} {R : It → Hp → Prop} (h : -(2 ^ 62) ≤ i ∧ i < 2 ^ 62 ∧ -(2 ^ 62) ≤ j ∧ j < 2 ^ 62) (q : R (Itr i (j - i).toNat) H) : R2K [.int i, .int j] H R := ⟨i, j, rfl, h, q⟩
theorem for_rng {lo : Int} {m : Nat} {g : TG} (Pv : Nat → L2.St → Hp → Prop) (h0 : Pv 0 σ H)
    (hs : ∀ i σ H, i < m → Pv i σ H → g (.int (lo + i)) σ H fun σ2 H2 => ts ⟨Pv (i + 1), r, n, Pv (i + 1)⟩ σ2 H2) (hd : ∀ σ H, Pv m σ H → n σ H) : ForK (Itr lo m) g ts n r b c σ H :=
  for_range (D := ⟨n, r, b, c⟩) Pv h0 hs hd
theorem for_lst {a : Addr} {xs : List V} {g : TG} (Pv : Nat → L2.St → Hp → Prop) (h0 : Pv 0 σ H) (hl : ∀ i σ H, i ≤ xs.length → Pv i σ H → SqL K H a xs)
    (hs : ∀ i x σ H, xs[i]? = some x → Pv i σ H → g x σ H fun σ2 H2 => ts ⟨Pv (i + 1), r, n, Pv (i + 1)⟩ σ2 H2) (hd : ∀ σ H, Pv xs.length σ H → n σ H) : ForK (Itl K a) g ts n r b c σ H :=
  for_list (D := ⟨n, r, b, c⟩) Pv h0 hl hs hd
end
end G
namespace G
open PySem PySem.Spec PyProof.Rows L2
/-- the instance at x was changed -/
structure Mi (x : Addr) (H H' : Hp) : Prop where
  all : ∀ b o, b ≠ x → H b = some o → (z : nt o = true := by first | rfl | assumption) → H' b = some o
  gone : ∀ b, H' b = .none → H b = .none
  tb : ∀ P, TabP H P → TabP H' P
theorem Mi.at {x a : Addr} {H H' : Hp} {o : HO} (k : Mi x H H') (h : H a = some o) (n : a ≠ x) (z : nt o = true := by first | rfl | assumption) : H' a = some o := k.all a o n h z
theorem Mi.trans {x : Addr} {H H1 H2 : Hp} (j : Mi x H H1) (k : Mi x H1 H2) : Mi x H H2 := ⟨fun b o n h z => k.all b o n (j.all b o n h z) z, fun b e => j.gone b (k.gone b e), fun P t => k.tb P (j.tb P t)⟩
theorem Mi.of_kp {x : Addr} {H H1 : Hp} (j : Kp H H1) : Mi x H H1 := ⟨fun b o _ h z => j.all b o h z, j.gone, j.tb⟩
theorem Kp.mi {x : Addr} {H H1 H2 : Hp} (n : H x = .none) (k : Kp H H1) (j : Mi x H1 H2) : Kp H H2 := ⟨fun c o e z => j.all c o (ne_of_none e n) (k.all c o e z) z, fun b e => k.gone b (j.gone b e), fun P t => j.tb P (k.tb P t)⟩
/-- all but x is kept, x was new: all is kept -/
theorem Kp.init {x : Addr} {H H1 H2 : Hp} (n : H x = .none) (k : Kp H H1) (j : Mi x H1 H2) : Kp H H2 := Kp.mi n k j
theorem st_setfldM {K : PySem.W.Frag} {C dx a : Addr} {f : Str} {fs : List (Str × V)} {H : Hp} {y : V} {R : Hp → Prop} (h : H a = some (.ins C dx fs)) (cl : Cls K C) (na : NoAttr K C f) (l : fs.length < 1000) (q : ∀ H', Mi a H H' → H' a = some (.ins C dx (putF f y fs)) → R H') : SFldK K f (.ref a) y H R :=
  st_setfldK h cl na l (q _ ⟨fun b o n e _ => by rw [upd_ne n]; exact e, none_upd h, fun _ t => tab_upd h rfl (fun _ _ => ins_code) t⟩ upd_same)
end G
namespace G
open PySem PySem.Spec PyProof.Rows L2
/-- the dict at p was changed -/
structure MD (p : Addr) (H H' : Hp) : Prop where
  was : ∃ kvs, H p = some (.dK kvs)
  all : ∀ b o, b ≠ p → H b = some o → (z : nt o = true := by first | rfl | assumption) → H' b = some o
  gone : ∀ b, H' b = .none → H b = .none
  tb : ∀ P, TabP H P → TabP H' P
section
variable {K : PySem.W.Frag} {H H' : Hp} {p a : Addr} {xs : List V} {C dx : Addr} {fs : List (Str × V)} {o : HO} {Q : VK} {σ : L2.St}
theorem MD.kp (k : MD p H H') (b : Addr) (o : HO) (n : b ≠ p) (h : H b = some o) (z : nt o = true := by first | rfl | assumption) : H' b = some o := k.all b o n h z
theorem MD.at (k : MD p H H') (h : H a = some o) (n : H a = some o → a ≠ p) (z : nt o = true := by first | rfl | assumption) : H' a = some o := k.all a _ (n h) h z
theorem MD.atN {H0 : Hp} (k : MD p H H') (n : H0 p = .none) (h0 : H0 a = some o) (h : H a = some o) (z : nt o = true := by first | rfl | assumption) : H' a = some o := k.all a _ (ne_of_none h0 n) h z
theorem MD.ins (k : MD p H H') (h : H a = some (.ins C dx fs)) : H' a = some (.ins C dx fs) := by
  obtain ⟨zs, e⟩ := k.was
  exact k.kp a _ (ne_of h e (fun z => by cases z)) h
theorem MD.tup (k : MD p H H') (h : H a = some (.tup xs)) : H' a = some (.tup xs) := by
  obtain ⟨zs, e⟩ := k.was
  exact k.kp a _ (ne_of h e (fun z => by cases z)) h
theorem MD.lst (k : MD p H H') (h : H a = some (.lst xs)) : H' a = some (.lst xs) := by
  obtain ⟨zs, e⟩ := k.was
  exact k.kp a _ (ne_of h e (fun z => by cases z)) h
theorem Kp.MD {H1 H2 : Hp} (n : H p = .none) (k : Kp H H1) (j : MD p H1 H2) : Kp H H2 := ⟨fun c o e z => j.all c o (ne_of_none e n) (k.all c o e z) z, fun b e => k.gone b (j.gone b e), fun P t => j.tb P (k.tb P t)⟩
/-- a dict display -/
def PairsK (trs : List (TE × TE)) (σ : L2.St) (H : Hp) (R : List (V × V) → Hp → Prop) : Prop := tPairs trs σ H R
def DispK (p : Addr) (ps : List (V × V)) (H : Hp) (Q : VK) : Prop := H p = some (.dK []) ∧ ∃ kvs : List (Key × V), ps = kvs.map (fun kv => (kV kv.1, kv.2)) ∧ kvs.length ≤ 15 ∧ Q (.ref p) (upd H p (.dK (mergeK [] kvs)))
theorem st_disp {trs : List (TE × TE)} (q : ∀ p H1, H p = none → Kp H H1 → H1 p = some (.dK []) → PairsK trs σ H1 fun ps H2 => DispK p ps H2 Q) : tDisp trs σ H Q := fun p e => q p _ e (Kp.new e) upd_same
theorem st_pairsN {R : List (V × V) → Hp → Prop} (q : R [] H) : PairsK [] σ H R := q
theorem st_pairsC {tk tv : TE} {r : List (TE × TE)} {R : List (V × V) → Hp → Prop} (q : tk σ H fun x H1 => tv σ H1 fun y H2 => PairsK r σ H2 fun ps H3 => R ((x, y) :: ps) H3) : PairsK ((tk, tv) :: r) σ H R := q
theorem st_dispS {zs : List (Str × V)} {ps : List (V × V)} (h : H p = some (.dK [])) (e : ps = zs.map fun z => (V.str z.1, z.2)) (l : zs.length ≤ 15) (q : ∀ H1, MD p H H1 → H1 p = some (.dK (mergeK [] (zs.map fun z => ((.inr z.1 : Key), z.2)))) → Q (.ref p) H1) : DispK p ps H Q :=
  ⟨h, zs.map (fun z => ((.inr z.1 : Key), z.2)), by rw [e, List.map_map]; rfl, by rw [List.length_map]; exact l, q _ ⟨⟨_, h⟩, fun b o n k _ => by rw [upd_ne n]; exact k, none_upd h, fun _ t => tab_upd h rfl (fun _ _ => dK_code) t⟩ upd_same⟩
theorem st_disp3 {s1 s2 s3 : Str} {v1 v2 v3 : V} (h : H p = some (.dK [])) (q : ∀ H1, MD p H H1 → H1 p = some (.dK (mergeK [] [(.inr s1, v1), (.inr s2, v2), (.inr s3, v3)])) → Q (.ref p) H1) : DispK p [(.str s1, v1), (.str s2, v2), (.str s3, v3)] H Q :=
  st_dispS (zs := [(s1, v1), (s2, v2), (s3, v3)]) h rfl (Nat.le_of_ble_eq_true rfl) q
/-- d.get(k, x) -/
def DgK (x : V) (H : Hp) (R : Addr → Prop) : Prop := ∃ a, x = .ref a ∧ IsD H a ∧ R a
def DgR (a : Addr) (y z : V) (H : Hp) (Q : VK) : Prop := ∃ o, DGet H a y o ∧ Q (o.getD z) H
theorem st_dget2 {td ty tx : TE} (q : td σ H fun x H1 => DgK x H1 fun a => ty σ H1 fun y H2 => tx σ H2 fun z H3 => DgR a y z H3 Q) : tDGet2 td ty tx σ H Q := q
theorem st_dgK {kvs : List (Key × V)} {R : Addr → Prop} (h : H a = some (.dK kvs)) (q : R a) : DgK (.ref a) H R := ⟨a, rfl, .inl ⟨kvs, .inl h⟩, q⟩
theorem st_dgS {kvs : List (Key × V)} {s : Str} {z v : V} (h : H a = some (.dK kvs)) (e : (valV kvs (.inr s)).getD z = v) (q : Q v H) : DgR a (.str s) z H Q := ⟨_, .inl ⟨kvs, .inr s, .inl h, rfl, rfl⟩, by rw [e]; exact q⟩
theorem st_dgSs {kvs : List (Key × V)} {s : Str} {z v : V} (h : H a = some (.dK kvs)) (e : valV kvs (.inr s) = some v) (q : Q v H) : DgR a (.str s) z H Q := st_dgS h (by rw [e]; rfl) q
theorem st_dgSn {kvs : List (Key × V)} {s : Str} {z : V} (h : H a = some (.dK kvs)) (e : valV kvs (.inr s) = none) (q : Q z H) : DgR a (.str s) z H Q := st_dgS h (by rw [e]; rfl) q
theorem eq_l2b {d : Addr} {i0 i1 j0 j1 : Bool} (h1 : SqL K H a [.bl i0, .bl i1]) (h2 : SqL K H d [.bl j0, .bl j1]) (q : Q (.bl (decide (i0 = j0 ∧ i1 = j1))) H) : rEqG K (.ref a) (.ref d) H Q :=
  .inr ⟨_, _, .lst h1 (.cons (.bl _) (.cons (.bl _) .nil)), .lst h2 (.cons (.bl _) (.cons (.bl _) .nil)), by rfl, by rfl, by
    have e : PyData.eqv (.list [.bool i0, .bool i1]) (.list [.bool j0, .bool j1]) = decide (i0 = j0 ∧ i1 = j1) := by cases i0 <;> cases i1 <;> cases j0 <;> cases j1 <;> rfl
    rw [e]
    exact q⟩
end
theorem one_units {k : Nat} {A : Around} (r : RoomG k A) : A.units + 1 < cLine := by have := r.units; omega
/-- all written by keywords but the first n: every parameter is written -/
theorem kb0_of {K : PySem.W.Frag} {x qual : Str} {params : Arguments} {body : List Stmt} {scope : Scope} {kws : List (Str × V)} {f : Addr} {fd : FuncData} (F : FunD K x qual params body scope [] kws f fd) {n : Nat} {ps ks : List Str}
    (hn : ps.length = n + ks.length)
    (h : ∀ (kV doc pm : Value) (an : Option Addr) (cdv ct : Value) (us ws : List Value), us.length = n → ws.length = ks.length → bindArgs (PySem.W.fnOf x qual params body scope .none kV doc pm an cdv ct) ⟨us, ks.zip ws⟩ = pure (ps.zip (us ++ ws))) : KB0 K fd n ps ks id id := by
  obtain ⟨oc, od, dV, kV, doc, pm, an, cdv, ct, osl, rfl, lk, hcd, hD, hK⟩ := F.ex
  rcases hD with ⟨_, rfl⟩ | ⟨e, _⟩
  · exact ⟨fun s us ws _ hu hl => .of_eq (h kV doc pm an cdv ct us ws hu (by rw [List.length_append, hu] at hl; exact (by simp only [id_eq] at hl; omega))), fun r => r⟩
  · exact absurd rfl e
end G
namespace G
open PySem PySem.Spec PySem.Calls PyProof.Rows L2
/-! ### repr of data -/
theorem repr_reads {prog : Program} {w : World} {A : Around} {E : Value → Shared → Prop} {s : Shared} {Q : Value → Shared → Prop} {v : Value} {d : PyData} {as : List Addr} (r : Reads s.heap v d as) (hs : d.showable = true) (nd : d.hasDict = false) (hz : d.shown.length ≤ sizeLine)
    (hg : A.guards = some []) (hu : A.units + 1 + d.depth < cLine) (hQ : ∀ h' u tk, (∀ b o, s.heap.get? b = some o → h'.get? b = some o) → Q (.str d.shown u) { s with heap := h', toks := tk }) : wpAny (model prog w) A (call (.builtin "repr") [v]) Q E s := by
  cases v with
  | ref a => exact repr_of_reads' r hs (fun z => by rw [nd] at z; cases z) hg (by omega) (fun _ _ e => e) (fun h' u tk k => hQ h' u tk k) hz
  | none =>
    cases r
    exact P.repr_of_none (by simpa only [PyData.shown] using hQ s.heap _ _ fun _ _ e => e)
  | bool b =>
    cases r
    exact P.repr_of_bool (by simpa only [PyData.shown] using hQ s.heap _ _ fun _ _ e => e)
  | int i t =>
    cases r
    exact P.repr_of_int (by simpa [PyData.showable] using hs) (by simpa only [PyData.shown] using hQ s.heap _ _ fun _ _ e => e)
  | str x t =>
    cases r
    exact P.repr_of_str (by simpa only [PyData.shown] using hQ s.heap _ _ fun _ _ e => e) (by simpa only [PyData.shown] using hz)
  | _ => nomatch r
section
variable {X : Cx} {k : Nat} {H : Hp} {x : V} {Q : VK}
/-- repr(x), x data -/
def rReprG (K : PySem.W.Frag) : List V → Hp → VK → Prop := fun xs H Q => ∃ x d, xs = [x] ∧ Dp K H x d ∧ d.showable = true ∧ d.hasDict = false ∧ d.shown.length ≤ sizeLine ∧ d.depth ≤ 50 ∧ Q (.str d.shown) H
theorem call_reprG (hr : RoomG k X.A) : CallR X (.builtin "repr") (rReprG X.K) := by
  intro pins s σ H xs us Q I r h
  obtain ⟨x, d, rfl, dp, hs, nd, hz, hd, q⟩ := h
  obtain ⟨u, rfl, ru⟩ := vals1 r
  obtain ⟨as, rd⟩ := Dp.reads I d x u dp ru
  exact repr_reads rd hs nd hz hr.gs (by have := hr.units; omega) fun h' t tk k => ⟨.str _, H, I.kept k, ⟨t, rfl⟩, q⟩
end
end G
namespace G
open PySem PySem.Spec PySem.Calls PyProof.Rows PySem.W
/-! ### arithmetic that an own class defines: on the class's own things, with an int behind, with an int ahead -/
section
variable {prog : Program} {w : World} {A : Around} {E : Value → Shared → Prop} {s : Shared} {K : PySem.W.Frag} {x C L f f' : Addr} {h₀ : Heap} {m : Str → Option Value} {ox : Obj} {od : Option Obj} {nm T : String}
theorem intB_declines {M : Model} {n : String} {fi : Int → Int → Sem PySem.Fin} {a : Int} {t : Tok} {Q : PySem.Fin → Shared → Prop} (hx : s.heap.get? x = some ox) (hd : ox.data = .plain) (h : Q (.done (.ret .notImplemented)) s) :
    wpAny M A (PySem.Builtin.Int.intBinary n fi false ⟨[.int a t, .ref x], []⟩) Q E s := by
  obtain ⟨hp, g, d, tk, os⟩ := s
  unfold PySem.Builtin.Int.intBinary
  wp_walk
  rw [hd]
  wp_walk
  exact h
theorem mul_declines {M : Model} {a : Int} {t : Tok} {Q : PySem.Fin → Shared → Prop} (hx : s.heap.get? x = some ox) (hd : ox.data = .plain) (h : Q (.done (.ret .notImplemented)) s) : wpAny M A (Builtin.«int.__mul__» ⟨[.int a t, .ref x], []⟩) Q E s := intB_declines hx hd h
/-- what stands in a class's place for an operator -/
structure OpB (K : PySem.W.Frag) (C : Addr) (nm : String) (f : Addr) : Prop where
  first : selfFirst K C = true
  at_ : findIn K (.ref C) (PySem.dunder nm) = some (some (.ref f))
  fn : isFn K (.ref f) = true
  refl : ∃ rc, findIn K (.ref C) (dunderR nm) = some rc ∧ (rc = none ∨ ∃ g : Addr, rc = some (.ref g))
/-- no in-place def -/
structure NoI (K : PySem.W.Frag) (C : Addr) (nm : String) : Prop where
  ex : ∃ cd, clsIn K C = some cd ∧ cd.mro = [.ref C, .type "object"]
  no : findIn K (.ref C) (dunderI nm) = some none
  noO : findIn K (.type "object") (dunderI nm) = some none
theorem noFillI {M : Model} {h : Heap} {add : Bool} (X : K.In h) (n : NoI K C nm) : Looks M h (fillsInplaceSlot (.ref C) nm add) false := by
  intro A Q E s k q
  obtain ⟨cd, hcd, hm⟩ := n.ex
  have lm : Looks M h (mroOf (.ref C)) cd.mro := (looks_clsIn X hcd).andThen (f := fun cd => pure cd.mro) .now
  have lm' := lm.keeps k
  obtain ⟨hh, g, d, tt, os⟩ := s
  have X' : K.In hh := X.keeps k
  have l1 : Looks M hh (typeLookup (.ref C) (dunderI nm)) none := looks_findIn X' n.no
  have l2 : Looks M hh (typeLookup (.type "object") (dunderI nm)) none := looks_findIn X' n.noO
  unfold fillsInplaceSlot
  refine wpAny_bind (lm'.at ?_)
  rw [hm]
  repeat lk
  exact q
theorem bin1_same {b : Value} {Q : Value → Shared → Prop} (X : K.In s.heap) (I : InstAt s.heap x ox C od) (B : OpB K C nm f) (hb : Looks (model prog w) s.heap (typeOf b) (.ref C)) (h : wpAny (model prog w) A (call (.ref f) [.ref x, b]) (PySem.W.CmpBack Q) E s) :
    wpAny (model prog w) A (binaryOp1 nm (.ref x) b) (fun r s' => ∃ v, r = some v ∧ Q v s') E s := by
  obtain ⟨cd, rest, hcd, hm⟩ := ksp_first B.first
  have one := ksp_try X I B.at_ B.fn h
  obtain ⟨hh, g, d, tt, os⟩ := s
  have l1 : Looks (model prog w) hh (typeOf (.ref x)) (.ref C) := I.type
  have l2 : Looks (model prog w) hh (typeOf b) (.ref C) := hb
  have l3 : Looks (model prog w) hh (fillsNumberSlot (.ref C) nm) true := fills_K X hcd hm B.at_
  unfold binaryOp1
  refine wpAny_bind (l1.at (wpAny_bind (l2.at (wpAny_bind (l3.at ?_)))))
  simp only [beq_self_eq_true, if_true, Bool.and_false, Bool.false_eq_true, if_false, Bool.false_and]
  ksp_lk
  refine wpAny_mono one (fun r s' hr => ?_) fun _ _ e => e
  obtain ⟨v, rfl, hq⟩ := hr
  ksp_lk
  exact ⟨v, rfl, hq⟩
theorem bin1_type {b : Value} {fo ro : Option Value} {Q : Value → Shared → Prop} (X : K.In s.heap) (I : InstAt s.heap x ox C od) (B : OpB K C nm f) (hb : typeOf b = pure (.type T)) (h1 : findIn K (.type T) (PySem.dunder nm) = some fo) (h2 : findIn K (.type T) (dunderR nm) = some ro)
    (hsub : subIn K (.type T) (.ref C) = some false) (h : wpAny (model prog w) A (call (.ref f) [.ref x, b]) (PySem.W.CmpBack Q) E s) : wpAny (model prog w) A (binaryOp1 nm (.ref x) b) (fun r s' => ∃ v, r = some v ∧ Q v s') E s := by
  obtain ⟨cd, rest, hcd, hm⟩ := ksp_first B.first
  obtain ⟨rc, hr, hp⟩ := B.refl
  have one := ksp_try X I B.at_ B.fn h
  obtain ⟨hh, g, d, tt, os⟩ := s
  have l1 : Looks (model prog w) hh (typeOf (.ref x)) (.ref C) := I.type
  have l2 : Looks (model prog w) hh (typeOf b) (.type T) := Looks.of_pure hb
  have l3 : Looks (model prog w) hh (fillsNumberSlot (.ref C) nm) true := fills_K X hcd hm B.at_
  obtain ⟨right, l4⟩ : ∃ right, Looks (model prog w) hh (fillsNumberSlot (.type T) nm) right := ⟨_, ksp_fillsT X h1 h2⟩
  have l5 : Looks (model prog w) hh (isSubtype (.type T) (.ref C)) false := looks_subIn X hsub
  have l6 : Looks (model prog w) hh (numberSlotInPython (.ref C) nm) true := ksp_inPy X B.at_ hr hp
  have l7 : Looks (model prog w) hh (numberSlotInPython (.type T) nm) false := Looks.of_pure rfl
  have l8 : Looks (model prog w) hh (typeLookup (.type T) (dunderR nm)) ro := looks_findIn X h2
  have ne : (Value.ref C == Value.type T) = false := Bool.eq_false_iff.mpr fun q => by cases beq_iff_eq.mp q
  unfold binaryOp1
  refine wpAny_bind (l1.at (wpAny_bind (l2.at (wpAny_bind (l3.at ?_)))))
  simp only [ne, Bool.false_eq_true, if_false]
  cases right <;>
  · ksp_lk
    refine wpAny_mono one (fun r s' hr => ?_) fun _ _ e => e
    obtain ⟨v, rfl, hq⟩ := hr
    ksp_lk
    exact ⟨v, rfl, hq⟩
/-- int's own def declines -/
def Declines (prog : Program) (w : World) (nm : String) : Prop := ∀ {A : Around} {E : Value → Shared → Prop} {s : Shared} {Q : Option Value → Shared → Prop} {n : Int} {t : Tok} {x : Addr} {ox : Obj}, s.heap.get? x = some ox → ox.data = .plain → Q none s →
  wpAny (model prog w) A (tryMethod (.int n t) (PySem.dunder nm) (.ref x)) Q E s
theorem declines_mul : Declines prog w "mul" := fun {A E s Q n t x ox} hx hd q => by
  unfold tryMethod
  refine wpAny_bind ?_
  generalize hz : PySem.dunder "mul" = z
  refine wpAny_callSpecial?_slot (id := "int.__mul__") (T := "int") (typeIs_int s n t) (by rw [← hz]; exact F.slot_int_mul) ?_
  exact wpAny_call_entry F.slot_int_mul (typeIs_int s n t) F.entry_int_mul (intB_declines hx hd ⟨_, rfl, wpAny_pure q⟩) (F.args_int_mul_2 _ _)
theorem bin1_refl {n : Int} {t : Tok} {Q : Value → Shared → Prop} (X : K.In s.heap) (I : InstAt s.heap x ox C od) (hd : ox.data = .plain) (B : OpB K C nm f) (hr : findIn K (.ref C) (dunderR nm) = some (some (.ref f'))) (hf : isFn K (.ref f') = true)
    (hfill : fillsNumberSlot (.type "int") nm = pure true) (dec : Declines prog w nm) (hsub : subIn K (.ref C) (.type "int") = some false) (h : wpAny (model prog w) A (call (.ref f') [.ref x, .int n t]) (PySem.W.CmpBack Q) E s) :
    wpAny (model prog w) A (binaryOp1 nm (.int n t) (.ref x)) (fun r s' => ∃ v, r = some v ∧ Q v s') E s := by
  obtain ⟨cd, rest, hcd, hm⟩ := ksp_first B.first
  have one := ksp_try X I hr hf h
  have at_ := I.at_
  obtain ⟨hh, g, d, tt, os⟩ := s
  have l1 : Looks (model prog w) hh (typeOf (.int n t)) (.type "int") := Looks.of_pure rfl
  have l2 : Looks (model prog w) hh (typeOf (.ref x)) (.ref C) := I.type
  have l3 : Looks (model prog w) hh (fillsNumberSlot (.type "int") nm) true := Looks.of_pure hfill
  have l4 : Looks (model prog w) hh (fillsNumberSlot (.ref C) nm) true := fills_K X hcd hm B.at_
  have l5 : Looks (model prog w) hh (isSubtype (.ref C) (.type "int")) false := looks_subIn X hsub
  have l6 : Looks (model prog w) hh (numberSlotInPython (.type "int") nm) false := Looks.of_pure rfl
  have ne : (Value.type "int" == Value.ref C) = false := Bool.eq_false_iff.mpr fun q => by cases beq_iff_eq.mp q
  unfold binaryOp1
  refine wpAny_bind (l1.at (wpAny_bind (l2.at (wpAny_bind (l3.at ?_)))))
  simp only [ne, Bool.false_eq_true, if_false]
  ksp_lk
  refine dec at_ hd ?_
  ksp_lk
  refine wpAny_mono one (fun r s' hr => ?_) fun _ _ e => e
  obtain ⟨v, rfl, hq⟩ := hr
  ksp_lk
  exact ⟨v, rfl, hq⟩
theorem bin_of {op : Operator} {a b : Value} {Q : Value → Shared → Prop} (h : wpAny (model prog w) A (binaryOp1 op.info.2 a b) (fun r s' => ∃ v, r = some v ∧ Q v s') E s) : wpAny (model prog w) A (binaryOp op a b) Q E s := by
  rcases hi : op.info with ⟨sym, nm'⟩
  rw [hi] at h
  simp only [binaryOp, hi]
  refine wpAny_holding (wpAny_bind (wpAny_mono h (fun r s' hr => ?_) fun _ _ e => e))
  obtain ⟨v, rfl, hq⟩ := hr
  exact wpAny_pure hq
theorem inp_of {op : Operator} {b : Value} {Q : Value → Shared → Prop} (X : K.In s.heap) (I : InstAt s.heap x ox C od) (n : NoI K C op.info.2) (h : wpAny (model prog w) A (binaryOp1 op.info.2 (.ref x) b) (fun r s' => ∃ v, r = some v ∧ Q v s') E s) : wpAny (model prog w) A (inplaceOp op (.ref x) b) Q E s := by
  obtain ⟨hh, g, d, tt, os⟩ := s
  have l1 : Looks (model prog w) hh (typeOf (.ref x)) (.ref C) := I.type
  have l2 : Looks (model prog w) hh (fillsInplaceSlot (.ref C) op.info.2 (op == .Add)) false := noFillI X n
  unfold inplaceOp
  refine wpAny_holding ?_
  refine wpAny_bind (l1.at (wpAny_bind (l2.at ?_)))
  simp only [Bool.false_eq_true, if_false]
  refine wpAny_bind (wpAny_mono h (fun r s' hr => ?_) fun _ _ e => e)
  obtain ⟨v, rfl, hq⟩ := hr
  exact wpAny_pure hq
end
end G
namespace G
open PySem PySem.Spec PySem.Calls PyProof.Rows L2
/-! ### rules for operators that an own class defines -/
section
variable {X : Cx} {CX : CXT} {k : Nat} {C g g' : Addr} {sp : Sp} {E : XK} {fd : FuncData} {ps : List Str} {pins : List (Addr × Obj)} {σ : L2.St} {H : Hp} {s : Shared} {Q : VK} {a dx : Addr} {fs : List (Str × V)}
theorem inst_of (I : Inv X pins σ H s) (ha : H a = some (.ins C dx fs)) : ∃ ox od, ox.data = .plain ∧ PySem.W.InstAt s.heap a ox C od := by
  obtain ⟨mA, O, _⟩ := ins_get I.hok ha
  obtain ⟨od, J, _⟩ := O.look
  exact ⟨_, _, rfl, J⟩
theorem back {P : Value → Shared → Prop} (h : wpAny (model X.prog X.w) X.A (call (.ref g) [.ref a]) (EP X pins σ Q) X.xe s) : wpAny (model X.prog X.w) X.A (call (.ref g) [.ref a]) (EP X pins σ Q) X.xe s := h
/-- x op y, both of the class at C -/
def rBinS (C : Addr) (sp : Sp) (E : XK) : R2 := fun x y H Q => ∃ a dx fs b dy gs, x = .ref a ∧ y = .ref b ∧ H a = some (.ins C dx fs) ∧ H b = some (.ins C dy gs) ∧ sp [x, y] H Q E
/-- x op y, y an int -/
def rBinI (C : Addr) (sp : Sp) (E : XK) : R2 := fun x y H Q => ∃ a dx fs j, x = .ref a ∧ y = .int j ∧ H a = some (.ins C dx fs) ∧ sp [x, y] H Q E
/-- x op y, x an int, y of the class: y's own reflected def -/
def rBinR (C : Addr) (sp : Sp) (E : XK) : R2 := fun x y H Q => ∃ a dx fs j, x = .int j ∧ y = .ref a ∧ H a = some (.ins C dx fs) ∧ sp [y, x] H Q E
structure IntB (K : PySem.W.Frag) (C : Addr) (nm : String) : Prop where
  fo : ∃ o, PySem.W.findIn K (.type "int") (PySem.dunder nm) = some o
  ro : ∃ o, PySem.W.findIn K (.type "int") (dunderR nm) = some o
  sub : PySem.W.subIn K (.type "int") (.ref C) = some false
theorem cmp_end {P : Value → Shared → Prop} {v : Value} {s' : Shared} (h : EP X pins σ Q v s') : PySem.W.CmpBack (EP X pins σ Q) v s' := let ⟨_, _, _, rz, _⟩ := h; SlX.cmpback rz h
theorem bin1_S {op : Operator} (B : OpB X.K C op.info.2 g) (F : FnG X.prog X.w X.K X.mg X.base CX k g fd ps sp) (hr : RoomG k X.A) (hb : Binds X.K fd ps []) (hx : Passes CX X E) :
    OpR X (fun v u => binaryOp op v u) (rBinS C sp E) := by
  intro pins s σ H x y v u Q I rx ry h
  obtain ⟨a, dx, fs, b, dy, gs, rfl, rfl, ha, hb', q⟩ := h
  cases (show v = Value.ref a from rx)
  cases (show u = Value.ref b from ry)
  obtain ⟨ox, od, _, J⟩ := inst_of I ha
  obtain ⟨oy, oe, _, J2⟩ := inst_of I hb'
  exact bin_of (bin1_same I.kIn J B J2.type (thn (run_fnG (us := [.ref a, .ref b]) (vs := [.ref a, .ref b]) F hr hb .nil hx I (.cons rfl (.cons rfl .nil)) q) fun w s' z => cmp_end (P := fun _ _ => True) z))
theorem bin1_I {op : Operator} (B : OpB X.K C op.info.2 g) (J : IntB X.K C op.info.2) (F : FnG X.prog X.w X.K X.mg X.base CX k g fd ps sp) (hr : RoomG k X.A) (hb : Binds X.K fd ps []) (hx : Passes CX X E) :
    OpR X (fun v u => binaryOp op v u) (rBinI C sp E) := by
  intro pins s σ H x y v u Q I rx ry h
  obtain ⟨a, dx, fs, j, rfl, rfl, ha, q⟩ := h
  cases (show v = Value.ref a from rx)
  obtain ⟨t, rfl⟩ := (show ∃ t, u = Value.int j t from ry)
  obtain ⟨ox, od, _, J1⟩ := inst_of I ha
  obtain ⟨_, h1⟩ := J.fo
  obtain ⟨_, h2⟩ := J.ro
  exact bin_of (bin1_type I.kIn J1 B rfl h1 h2 J.sub (thn (run_fnG (us := [.ref a, .int j t]) (vs := [.ref a, .int j]) F hr hb .nil hx I (.cons rfl (.cons ⟨t, rfl⟩ .nil)) q) fun w s' z => cmp_end (P := fun _ _ => True) z))
theorem bin1_R {op : Operator} (B : OpB X.K C op.info.2 g) (r : OwnM X.K C (dunderR op.info.2) g') (fill : fillsNumberSlot (.type "int") op.info.2 = pure true) (dec : Declines X.prog X.w op.info.2) (sub : PySem.W.subIn X.K (.ref C) (.type "int") = some false)
    (F : FnG X.prog X.w X.K X.mg X.base CX k g' fd ps sp) (hr : RoomG k X.A) (hb : Binds X.K fd ps []) (hx : Passes CX X E) : OpR X (fun v u => binaryOp op v u) (rBinR C sp E) := by
  intro pins s σ H x y v u Q I rx ry h
  obtain ⟨a, dx, fs, j, rfl, rfl, ha, q⟩ := h
  cases (show u = Value.ref a from ry)
  obtain ⟨t, rfl⟩ := (show ∃ t, v = Value.int j t from rx)
  obtain ⟨ox, od, hd, J1⟩ := inst_of I ha
  exact bin_of (bin1_refl I.kIn J1 hd B r.at_ r.fn fill dec sub (thn (run_fnG (us := [.ref a, .int j t]) (vs := [.ref a, .int j]) F hr hb .nil hx I (.cons rfl (.cons ⟨t, rfl⟩ .nil)) q) fun w s' z => cmp_end (P := fun _ _ => True) z))
theorem inp_S {op : Operator} (B : OpB X.K C op.info.2 g) (n : NoI X.K C op.info.2) (F : FnG X.prog X.w X.K X.mg X.base CX k g fd ps sp) (hr : RoomG k X.A) (hb : Binds X.K fd ps []) (hx : Passes CX X E) : PIp X op (rBinS C sp E) := by
  intro pins s σ H x y v u Q I rx ry h
  obtain ⟨a, dx, fs, b, dy, gs, rfl, rfl, ha, hb', q⟩ := h
  cases (show v = Value.ref a from rx)
  cases (show u = Value.ref b from ry)
  obtain ⟨ox, od, _, J⟩ := inst_of I ha
  obtain ⟨oy, oe, _, J2⟩ := inst_of I hb'
  exact inp_of I.kIn J n (bin1_same I.kIn J B J2.type (thn (run_fnG (us := [.ref a, .ref b]) (vs := [.ref a, .ref b]) F hr hb .nil hx I (.cons rfl (.cons rfl .nil)) q) fun w s' z => cmp_end (P := fun _ _ => True) z))
theorem inp_I {op : Operator} (B : OpB X.K C op.info.2 g) (J : IntB X.K C op.info.2) (n : NoI X.K C op.info.2) (F : FnG X.prog X.w X.K X.mg X.base CX k g fd ps sp) (hr : RoomG k X.A) (hb : Binds X.K fd ps []) (hx : Passes CX X E) : PIp X op (rBinI C sp E) := by
  intro pins s σ H x y v u Q I rx ry h
  obtain ⟨a, dx, fs, j, rfl, rfl, ha, q⟩ := h
  cases (show v = Value.ref a from rx)
  obtain ⟨t, rfl⟩ := (show ∃ t, u = Value.int j t from ry)
  obtain ⟨ox, od, _, J1⟩ := inst_of I ha
  obtain ⟨_, h1⟩ := J.fo
  obtain ⟨_, h2⟩ := J.ro
  exact inp_of I.kIn J1 n (bin1_type I.kIn J1 B rfl h1 h2 J.sub (thn (run_fnG (us := [.ref a, .int j t]) (vs := [.ref a, .int j]) F hr hb .nil hx I (.cons rfl (.cons ⟨t, rfl⟩ .nil)) q) fun w s' z => cmp_end (P := fun _ _ => True) z))
/-- -x -/
def rNegO (C : Addr) (sp : Sp) (E : XK) : V → Hp → VK → Prop := fun x H Q => ∃ a dx fs, x = .ref a ∧ H a = some (.ins C dx fs) ∧ sp [x] H Q E
theorem un_negO (m : OwnM X.K C "__neg__" g) (F : FnG X.prog X.w X.K X.mg X.base CX k g fd ps sp) (hr : RoomG k X.A) (hb : Binds X.K fd ps []) (hx : Passes CX X E) : UnR X (unaryOp .USub) (rNegO C sp E) := by
  intro pins s σ H x v Q I rx h
  obtain ⟨a, dx, fs, rfl, ha, q⟩ := h
  cases (show v = Value.ref a from rx)
  obtain ⟨ox, od, _, J⟩ := inst_of I ha
  obtain ⟨mm, hF⟩ := I.fr
  exact PySem.W.ksp_neg hF I.ok.mod.kin J m.at_ m.fn (run_fnG (us := [.ref a]) (vs := [.ref a]) F hr hb .nil hx I (.cons rfl .nil) q)
/-- str(x) -/
def rStrO (C : Addr) (sp : Sp) (E : XK) : List V → Hp → VK → Prop := fun xs H Q => ∃ a dx fs, xs = [.ref a] ∧ H a = some (.ins C dx fs) ∧ sp [.ref a] H (fun v H' => ∃ z : Str, v = .str z ∧ Q v H') E
theorem call_strO (m : OwnM X.K C "__str__" g) (F : FnG X.prog X.w X.K X.mg X.base CX k g fd ps sp) (hr : RoomG (k + 2) X.A) (hb : Binds X.K fd ps []) (hx : Passes CX X E) : CallR X (.type "str") (rStrO C sp E) := by
  intro pins s σ H xs us Q I r h
  obtain ⟨a, dx, fs, rfl, ha, q⟩ := h
  obtain ⟨u, rfl, ru⟩ := vals1 r
  cases (show u = Value.ref a from ru)
  obtain ⟨ox, od, _, J⟩ := inst_of I ha
  have run := run_at (args := ⟨[.ref a], []⟩) (ws := [.ref a]) (vs := [.ref a]) F (hr.in1).in1 I.env0.in1.in1 hx I (hb s [.ref a] I.kIn (by have l := F.len q; exact l)) (.cons rfl .nil) q
  refine PySem.W.kso_call (by have := hr.units; show X.A.units + 1 + 1 < cLine; omega) I.kIn J m.at_ m.fn (wpAny_mono (wp_er run) (fun v s' z => ?_) fun _ _ e => e)
  obtain ⟨w, H', I', rw', z, ez, qz⟩ := z
  subst ez
  obtain ⟨t, e⟩ := (show ∃ t, v = Value.str z t from rw')
  subst e
  exact ⟨.str z, H', I', ⟨t, rfl⟩, qz⟩
/-- bool(x) -/
def rBoolO (C : Addr) (sp : Sp) (E : XK) : List V → Hp → VK → Prop := fun xs H Q => ∃ a dx fs, xs = [.ref a] ∧ H a = some (.ins C dx fs) ∧ sp [.ref a] H (fun v H' => ∃ b : Bool, v = .bl b ∧ Q v H') E
theorem call_boolO (m : OwnM X.K C "__bool__" g) (F : FnG X.prog X.w X.K X.mg X.base CX k g fd ps sp) (hr : RoomG (k + 2) X.A) (hb : Binds X.K fd ps []) (hx : Passes CX X E) : CallR X (.type "bool") (rBoolO C sp E) := by
  intro pins s σ H xs us Q I r h
  obtain ⟨a, dx, fs, rfl, ha, q⟩ := h
  obtain ⟨u, rfl, ru⟩ := vals1 r
  cases (show u = Value.ref a from ru)
  obtain ⟨ox, od, _, J⟩ := inst_of I ha
  obtain ⟨mm, hF⟩ := I.fr
  have run := run_at (args := ⟨[.ref a], []⟩) (ws := [.ref a]) (vs := [.ref a]) F (hr.in1).in1 I.env0.in1.in1 hx I (hb s [.ref a] I.kIn (by have l := F.len q; exact l)) (.cons rfl .nil) q
  have tr : wpAny (model X.prog X.w) X.A.in1.in1 (truthy (.ref a)) (fun b s' => EP X pins σ Q (.bool b) s') X.xe s := PySem.W.truthy_K hF I.ok.mod.kin J m.at_ m.fn (wpAny_mono (wp_er run) (fun v s' z => by
    obtain ⟨w, H', I', rw', b, ez, qz⟩ := z
    subst ez
    cases (show v = Value.bool b from rw')
    exact ⟨.bl b, H', I', rfl, qz⟩) fun _ _ e => e)
  refine callType_codes (T := "bool") (Bi := Builtin.«object.__init__») (Q₁ := fun r s₁ => ∃ b, r = .bool b ∧ EP X pins σ Q r s₁) PySem.F.called_bool (PySem.F.typeCall_bool_1 _) PySem.F.entry_object_init ?_ ?_
  · refine codeAny_of_tree ?_
    show wpAny _ X.A.in1.in1 (checkBuiltinCall "bool.__new__" ⟨[.type "bool", .ref a], []⟩ >>= fun _ => again (.builtin "bool.__new__" ⟨[.type "bool", .ref a], []⟩)) _ _ s
    refine wpAny_bind (wpAny_of_eq (PySem.F.newCall_bool_1 _) (wpAny_pure ⟨plainId_quiet (by decide +kernel) _, codeAny_builtin PySem.F.entry_bool_new ?_⟩))
    rw [Around.under_plainId (by decide +kernel) _]
    unfold Builtin.«bool.__new__»
    refine wpAny_bind (m := isType _) (wpAny_pure ?_)
    refine wpAny_bind (wpAny_of_eq PySem.F.conv_sub_bool ?_)
    refine wpAny_bind (m := someArgs _ _ _ _) (wpAny_pure ?_)
    exact wpAny_bind (wpAny_mono tr (fun b s' z => wpAny_pure ⟨b, rfl, z⟩) fun _ _ e => e)
  · rintro obj s₁ ⟨b, rfl, hq⟩
    exact ⟨PySem.typeIs_bool _ _, PySem.F.args_object_init_2 _ _, object_init_meets PySem.F.called_bool.init.lookup PySem.F.called_bool.made (by decide) X.prog X.w X.A.in1 _ s₁ ⟨PySem.typeIs_bool _ _, rfl, hq⟩⟩
/-- x != y, by the class's own __eq__ -/
def rNeO (K : PySem.W.Frag) (C : Addr) (sp : Sp) (E : XK) : R2 := fun x y H Q => ∃ a dx fs t, x = .ref a ∧ H a = some (.ins C dx fs) ∧ TyX K H y t ∧ PySem.W.notFirst K C t = true ∧ sp [x, y] H (fun v H' => ∃ b : Bool, v = .bl b ∧ Q (.bl (!b)) H') E
structure NeM (K : PySem.W.Frag) (C : Addr) (g : Addr) : Prop where
  eq : OwnM K C "__eq__" g
  ne : PySem.W.findIn K (.ref C) "__ne__" = some (some (.builtin "object.__ne__"))
  ob : PySem.W.mroIn K C (.type "object") = some true
theorem rc_of {prog : Program} {w : World} {A : Around} {E : Value → Shared → Prop} {K : PySem.W.Frag} {x : Addr} {ox : Obj} {od : Option Obj} {op : CmpOp} {b tb : Value} {R : Value → Shared → Prop} (hu : A.units < cLine) (KX : K.In s.heap) (I : PySem.W.InstAt s.heap x ox C od)
    (hb : PySem.W.Looks (model prog w) s.heap (typeOf b) tb) (hn : PySem.W.notFirst K C tb = true) (one : wpAny (model prog w) A (tryCompare (.ref x) (cmpInfo op).2.1 b) (fun r s' => ∃ v, r = some v ∧ R v s') E s) : wpAny (model prog w) A (richCompare op (.ref x) b) R E s := by
  have fin : wpAny (model prog w) A (tryCompare (.ref x) (cmpInfo op).2.1 b >>= fun r => match r with
      | some v => pure v
      | none => (default : Sem Value)) R E s := wpAny_bind (wpAny_mono one (fun r s' z => by
    obtain ⟨v, rfl, hv⟩ := z
    exact wpAny_pure hv) fun _ _ e => e)
  simp only [richCompare, oneThing_ref]
  refine wpAny_holding (wpAny_bind (wpAny_cRoomFor hu (wpAny_bind (I.type.here (wpAny_bind (hb.here ?_))))))
  have two : wpAny (model prog w) A (tryCompare (.ref x) (cmpInfo op).2.1 b) (fun r s' => ∃ v, r = some v ∧ R v s') E s := one
  split
  · rename_i q
    rcases Bool.or_eq_true_iff.mp hn with e | e
    · rw [beq_iff_eq.mp e] at q
      simp at q
    · refine wpAny_bind ((PySem.W.looks_subIn KX (beq_iff_eq.mp e)).here ?_)
      simp only [Bool.false_eq_true, if_false]
      exact wpAny_bind (wpAny_mono two (fun r s' z => by obtain ⟨v, rfl, hv⟩ := z; exact wpAny_pure hv) fun _ _ e => e)
  · refine wpAny_bind (wpAny_pure ?_)
    simp only [Bool.false_eq_true, if_false]
    exact wpAny_bind (wpAny_mono two (fun r s' z => by obtain ⟨v, rfl, hv⟩ := z; exact wpAny_pure hv) fun _ _ e => e)
theorem ifBound_ne {M : Model} {A : Around} {E : Value → Shared → Prop} {K : PySem.W.Frag} {x : Addr} {ox : Obj} {od : Option Obj} {args : List Value} {R : Option Value → Shared → Prop} (KX : K.In s.heap) (I : PySem.W.InstAt s.heap x ox C od) (hs : PySem.W.findIn K (.ref C) "__ne__" = some (some (.builtin "object.__ne__")))
    (h : wpAny M A (call (.builtin "object.__ne__") (.ref x :: args)) (fun v => R (some v)) E s) : wpAny M A (callSpecialIfBound? (.ref x) "__ne__" args) R E s := by
  simp only [callSpecialIfBound?, bindSpecialIfBound?]
  refine wpAny_holding (wpAny_bind (wpAny_bind (wpAny_bind (I.type.here ((PySem.W.looks_findIn KX hs).here (wpAny_bind (wpAny_askSetting (wpAny_ite ?_))))))))
  have fin : wpAny M A (call (.builtin "object.__ne__") ([.ref x] ++ args) >>= fun v => pure (some v)) R E s := wpAny_bind (wpAny_mono h (fun _ _ z => wpAny_pure z) fun _ _ z => z)
  have b := PySem.F.cmp_object.ne.bind (.ref x)
  split
  · exact wpAny_bind (wpAny_of_eq b (wpAny_pure (by exact fin)))
  · exact wpAny_tryCatch (wpAny_bind (wpAny_of_eq b (wpAny_pure (by exact fin))))
theorem op_neO (m : NeM X.K C g) (F : FnG X.prog X.w X.K X.mg X.base CX k g fd ps sp) (hr : RoomG (k + 1) X.A) (hb : Binds X.K fd ps []) (hx : Passes CX X E) : OpR X (fun v u => compareOp .NotEq v u) (rNeO X.K C sp E) := by
  intro pins s σ H x y v u Q I rx ry h
  obtain ⟨a, dx, fs, t, rfl, ha, ty, hn, q⟩ := h
  cases (show v = Value.ref a from rx)
  obtain ⟨ox, od, _, J⟩ := inst_of I ha
  obtain ⟨Pt, Z, pz, _⟩ := kit_of I ry ty
  have hu := hr.units
  have run := run_at (args := ⟨[.ref a, u], []⟩) (ws := [.ref a, u]) (vs := [.ref a, y]) F hr.in1 I.env0.in1 hx I (hb s [.ref a, u] I.kIn (by have l := F.len q; exact l)) (.cons rfl (.cons ry .nil)) q
  have one : wpAny (model X.prog X.w) X.A (tryCompare (.ref a) "__ne__" u) (fun r s' => ∃ v, r = some v ∧ EP X pins σ Q v s') X.xe s := by
    unfold tryCompare
    refine wpAny_bind (ifBound_ne I.kIn J m.ne (wpAny_call (codeAny_call_builtin PySem.F.cmp_object.ne.plain PySem.F.cmpEntry_ne (PySem.W.check_slot PySem.F.cmpKind_ne PySem.F.cmpSplit_ne (J.type.andThen (PySem.W.looks_mroIn I.kIn m.ob)) (PySem.F.cmpArgs_ne _ _) ?_))))
    unfold Builtin.«object.__ne__»
    refine wpAny_bind (m := slotArgs _ _ _) (wpAny_pure ?_)
    refine wpAny_bind (wpAny_cRoomFor (by show X.A.units + 1 < cLine; omega) ?_)
    refine wpAny_bind (m := callSpecialIfBound? (.ref a) (Str.ofString "__eq__") [u]) (PySem.W.ifBound_K I.kIn J m.eq.at_ m.eq.fn (wpAny_mono (wp_er run) (fun v s' z => ?_) fun _ _ e => e))
    obtain ⟨w, H', I', rw', b, ez, qz⟩ := z
    subst ez
    cases (show v = Value.bool b from rw')
    refine wpAny_bind (m := truthy (.bool b)) (wpAny_truthy_bool (wpAny_pure ?_))
    exact wpAny_pure ⟨_, rfl, ⟨.bl (!b), H', I', rfl, qz⟩⟩
  exact rc_of (op := .NotEq) hr.units0 I.kIn J (Z.ty _ _ I.kIn pz) hn one
end
end G
namespace G
open PySem PySem.Spec PyProof.Rows L2
/-! ### facts of own operators, as Bools -/
section
variable {K : PySem.W.Frag} {x : Str} {nm : String}
def opB (x : Str) (nm : String) : ExB := fun K => PySem.W.selfFirst K (He.ga K x) && (He.eqO (PySem.W.findIn K (.ref (He.ga K x)) (PySem.dunder nm)) (some (some (.ref (He.ma K (He.ga K x) (PySem.dunder nm))))) && (PySem.W.isFn K (.ref (He.ma K (He.ga K x) (PySem.dunder nm))) &&
  (match PySem.W.findIn K (.ref (He.ga K x)) (dunderR nm) with
    | some none => true
    | some (some (.ref _)) => true
    | _ => false)))
theorem opB_ok (h : opB x nm K = true) : OpB K (He.ga K x) nm (He.ma K (He.ga K x) (PySem.dunder nm)) := by
  obtain ⟨h1, h⟩ := He.ba h
  obtain ⟨h2, h⟩ := He.ba h
  obtain ⟨h3, h4⟩ := He.ba h
  refine ⟨h1, He.eqO_ok h2, h3, ?_⟩
  split at h4
  · rename_i e
    exact ⟨none, e, .inl rfl⟩
  · rename_i g e
    exact ⟨some (.ref g), e, .inr ⟨g, rfl⟩⟩
  · cases h4
def intB (x : Str) (nm : String) : ExB := fun K => (PySem.W.findIn K (.type "int") (PySem.dunder nm)).isSome && ((PySem.W.findIn K (.type "int") (dunderR nm)).isSome && decide (PySem.W.subIn K (.type "int") (.ref (He.ga K x)) = some false))
theorem intB_ok (h : intB x nm K = true) : IntB K (He.ga K x) nm := by
  obtain ⟨h1, h⟩ := He.ba h
  obtain ⟨h2, h3⟩ := He.ba h
  exact ⟨Option.isSome_iff_exists.mp h1, Option.isSome_iff_exists.mp h2, of_decide_eq_true h3⟩
def noIB (x : Str) (nm : String) : ExB := fun K => (match PySem.W.clsIn K (He.ga K x) with
    | some cd => cd.mro == [.ref (He.ga K x), .type "object"]
    | none => false) && (He.eqO (PySem.W.findIn K (.ref (He.ga K x)) (dunderI nm)) (some none) && He.eqO (PySem.W.findIn K (.type "object") (dunderI nm)) (some none))
theorem noIB_ok (h : noIB x nm K = true) : NoI K (He.ga K x) nm := by
  obtain ⟨h1, h⟩ := He.ba h
  obtain ⟨h2, h3⟩ := He.ba h
  refine ⟨?_, He.eqO_ok h2, He.eqO_ok h3⟩
  split at h1
  · rename_i cd e
    exact ⟨cd, e, eq_of_beq h1⟩
  · cases h1
def neB (x : Str) : ExB := fun K => ownB x "__eq__" K && (He.eqO (PySem.W.findIn K (.ref (He.ga K x)) "__ne__") (some (some (.builtin "object.__ne__"))) && decide (PySem.W.mroIn K (He.ga K x) (.type "object") = some true))
theorem neB_ok (h : neB x K = true) : NeM K (He.ga K x) (He.ma K (He.ga K x) "__eq__") := by
  obtain ⟨h1, h⟩ := He.ba h
  obtain ⟨h2, h3⟩ := He.ba h
  exact ⟨ownB_ok h1, He.eqO_ok h2, of_decide_eq_true h3⟩
def noIntB (x : Str) : ExB := fun K => decide (PySem.W.subIn K (.ref (He.ga K x)) (.type "int") = some false)
theorem noIntB_ok (h : noIntB x K = true) : PySem.W.subIn K (.ref (He.ga K x)) (.type "int") = some false := of_decide_eq_true h
end
/-! ### one rule or the other -/
def rOr (r r' : R2) : R2 := fun x y H Q => r x y H Q ∨ r' x y H Q
theorem opOr {X : Cx} {f : Value → Value → Sem Value} {r r' : R2} (h : OpR X f r) (h' : OpR X f r') : OpR X f (rOr r r') := h.or h'
def cOr (r r' : List V → Hp → VK → Prop) : List V → Hp → VK → Prop := fun xs H Q => r xs H Q ∨ r' xs H Q
theorem callOr {X : Cx} {f : Value} {r r' : List V → Hp → VK → Prop} (h : CallR X f r) (h' : CallR X f r') : CallR X f (cOr r r') := h.or h'
def uOr (r r' : V → Hp → VK → Prop) : V → Hp → VK → Prop := fun x H Q => r x H Q ∨ r' x H Q
theorem unOr {X : Cx} {f : Value → Sem Value} {r r' : V → Hp → VK → Prop} (h : UnR X f r) (h' : UnR X f r') : UnR X f (uOr r r') := fun pins s σ H x v Q I rx q => q.elim (h pins s σ H x v Q I rx) (h' pins s σ H x v Q I rx)
theorem pipOr {X : Cx} {op : Operator} {r r' : R2} (h : PIp X op r) (h' : PIp X op r') : PIp X op (rOr r r') := fun pins s σ H x y v u Q I rx ry q => q.elim (h pins s σ H x y v u Q I rx ry) (h' pins s σ H x y v u Q I rx ry)
section
variable {r r' : R2} {c c' : List V → Hp → VK → Prop} {u u' : V → Hp → VK → Prop} {x y : V} {xs : List V} {H : Hp} {Q : VK}
theorem or_l (q : r x y H Q) : rOr r r' x y H Q := .inl q
theorem or_r (q : r' x y H Q) : rOr r r' x y H Q := .inr q
theorem cor_l (q : c xs H Q) : cOr c c' xs H Q := .inl q
theorem cor_r (q : c' xs H Q) : cOr c c' xs H Q := .inr q
theorem uor_l (q : u x H Q) : uOr u u' x H Q := .inl q
theorem uor_r (q : u' x H Q) : uOr u u' x H Q := .inr q
end
/-! ### a list comprehension of one clause -/
section
variable {J : It} {g : TG} {tt : TT} {te : TE} {vs : List Nat} {σ σ0 σ2 : L2.St} {H H1 : Hp} {Q : VK} {D : Addr} {y : V} {R : Hp → Prop} {K : PySem.W.Frag}
def LcK (J : It) (g : TG) (tt : TT) (te : TE) (vs : List Nat) (σ : L2.St) (H1 : Hp) (Q : VK) : Prop := ∀ D, H1 D = none → ∃ W : Nat → Nat → Hp → Prop, (∃ m, W 0 m (upd H1 D (.lst []))) ∧ ∀ i m H, W i m H →
  (J.stop i H ∧ Q (.ref D) H) ∨ (J.go i H ∧ ∃ Nx : Hp → Prop, (∀ H', Nx H' → ∃ m', m' < m ∧ W (i + 1) m' H') ∧ ∀ x H', J.yld i H x H' → g x (wipe σ vs) H' fun σ2 H2 => wipe σ2 vs = wipe σ vs ∧ tt σ2 H2 fun b H3 =>
    if b = true then te σ2 H3 fun y H4 => ∃ acc, H4 D = some (.lst acc) ∧ acc.length < sizeLine ∧ Nx (upd H4 D (.lst (acc ++ [y]))) else Nx H3)
theorem st_lc {wi : TI} (q : wi σ H fun J H1 => LcK J g tt te vs σ H1 Q) : tLc wi g tt te vs σ H Q := q
/-- an item is put behind -/
def AppK (D : Addr) (y : V) (H : Hp) (R : Hp → Prop) : Prop := ∃ acc, H D = some (.lst acc) ∧ acc.length < sizeLine ∧ R (upd H D (.lst (acc ++ [y])))
theorem st_app {acc : List V} (h : H D = some (.lst acc)) (l : acc.length < sizeLine) (q : ∀ H', Md D H H' → H' D = some (.lst (acc ++ [y])) → R H') : AppK D y H R := ⟨acc, h, l, q _ (Md.upd h) upd_same⟩
/-- the block's own names are as they were -/
def WipK (vs : List Nat) (σ2 σ0 : L2.St) (P : Prop) : Prop := wipe σ2 vs = σ0 ∧ P
theorem st_wip {P : Prop} (e : wipe σ2 vs = σ0) (q : P) : WipK vs σ2 σ0 P := ⟨e, q⟩
def LcB (b : Bool) (te : TE) (D : Addr) (σ2 : L2.St) (H : Hp) (R : Hp → Prop) : Prop := if b = true then te σ2 H fun y H4 => AppK D y H4 R else R H
theorem st_lcT (q : te σ2 H fun y H4 => AppK D y H4 R) : LcB true te D σ2 H R := by unfold LcB; rw [if_pos rfl]; exact q
theorem st_lcB {b : Bool} (q : b = true → te σ2 H fun y H4 => AppK D y H4 R) (q' : b = false → R H) : LcB b te D σ2 H R := by
  cases b with
  | true => exact st_lcT (q rfl)
  | false => exact q' rfl
theorem st_yes {Q : Bool → Hp → Prop} (q : Q true H) : tYes σ H Q := q
/-- over a range -/
theorem lc_rngG {lo : Int} {n : Nat} (Pv : Addr → Nat → Hp → Prop) (e : wipe σ vs = σ0) (h0 : ∀ D H2, H1 D = none → Kp H1 H2 → H2 D = some (.lst []) → Pv D 0 H2)
    (hs : ∀ D i H, i < n → Pv D i H → g (.int (lo + i)) σ0 H fun σ2 H2 => WipK vs σ2 σ0 (tt σ2 H2 fun b H3 => LcB b te D σ2 H3 (Pv D (i + 1)))) (hd : ∀ D H, Pv D n H → Q (.ref D) H) : LcK (Itr lo n) g tt te vs σ H1 Q := fun D hD => by
  subst e
  exact lc_range (Pv D) (h0 D _ hD (Kp.new hD) upd_same) (hs D) (hd D)
/-- over a list that the block leaves as it is -/
theorem lc_lstG {a : Addr} {xs : List V} (Pv : Addr → Nat → Hp → Prop) (e : wipe σ vs = σ0) (h0 : ∀ D H2, H1 D = none → Kp H1 H2 → H2 D = some (.lst []) → Pv D 0 H2) (hl : ∀ D i H, i ≤ xs.length → Pv D i H → SqL K H a xs)
    (hs : ∀ D i x H, xs[i]? = some x → Pv D i H → g x σ0 H fun σ2 H2 => WipK vs σ2 σ0 (tt σ2 H2 fun b H3 => LcB b te D σ2 H3 (Pv D (i + 1)))) (hd : ∀ D H, Pv D xs.length H → Q (.ref D) H) : LcK (Itl K a) g tt te vs σ H1 Q := fun D hD => by
  subst e
  exact lc_list (Pv D) (h0 D _ hD (Kp.new hD) upd_same) (hl D) (hs D) (hd D)
end
end G
namespace G
open PySem PySem.Spec PyProof.Rows L2
/-! ### texts: their lengths, f-strings, repr -/
abbrev tx (i : Int) : Str := Str.ofString (toString i)
/-- at most n signs -/
def LB (n : Nat) (z : Str) : Prop := z.length ≤ n
theorem LB.app {n m : Nat} {y z : Str} (h : LB n y) (k : LB m z) : LB (n + m) (y ++ z) := by
  show (y ++ z).length ≤ n + m
  rw [strLen_append]
  exact Nat.add_le_add h k
theorem LB.int {m : Nat} {i : Int} (h : Bd m i) (l : m < 1920) : LB 1921 (tx i) := int_text_len_1921 (Nat.lt_of_le_of_lt (log_of h) l)
theorem LB.lit (z : Str) : LB z.length z := Nat.le_refl _
theorem LB.fits {n : Nat} {z : Str} (h : LB n z) (l : n ≤ 16000000) : z.length ≤ sizeLine := by
  have := sizeLine_eq
  have h' : z.length ≤ n := h
  omega
theorem LB.two {n m : Nat} {y z : Str} (h : LB n y) (k : LB m z) (l : n + m ≤ 16000000) : y.length + z.length ≤ sizeLine := by
  have := sizeLine_eq
  have h' : y.length ≤ n := h
  have k' : z.length ≤ m := k
  omega
section
variable {t : TE} {ts : List TE} {acc y : Str} {σ : L2.St} {H : Hp} {K : Str → Hp → Prop} {Q : VK} {x : V} {KF : PySem.W.Frag} {a : Addr} {i j : Int}
def JsK (x : V) (acc : Str) (ts : List TE) (σ : L2.St) (H : Hp) (K : Str → Hp → Prop) : Prop := ∃ y : Str, x = .str y ∧ (acc ++ y).length ≤ sizeLine ∧ tJs ts (acc ++ y) σ H K
theorem st_jsC (q : t σ H fun x H1 => JsK x acc ts σ H1 K) : tJs (t :: ts) acc σ H K := q
theorem st_jsK (l : (acc ++ y).length ≤ sizeLine) (q : tJs ts (acc ++ y) σ H K) : JsK (.str y) acc ts σ H K := ⟨y, rfl, l, q⟩
theorem st_jsN (q : K acc H) : tJs [] acc σ H K := q
def FmtK (x : V) (H : Hp) (Q : VK) : Prop := (∃ y : Str, x = .str y ∧ y.length ≤ sizeLine ∧ Q (.str y) H) ∨ ∃ i : Int, x = .int i ∧ i.natAbs.log2 < 1920 ∧ Q (.str (toString i)) H
theorem st_fmt (q : t σ H fun x H1 => FmtK x H1 Q) : tFmt t σ H Q := q
theorem fmt_i {m : Nat} (b : Bd m i) (l : m < 1920) (q : Q (.str (tx i)) H) : FmtK (.int i) H Q := .inr ⟨i, rfl, Nat.lt_of_le_of_lt (log_of b) l, q⟩
theorem fmt_s (l : y.length ≤ sizeLine) (q : Q (.str y) H) : FmtK (.str y) H Q := .inl ⟨y, rfl, l, q⟩
/-- str(i) -/
def StrIK : List V → Hp → VK → Prop := fun xs H Q => ∃ i, xs = [.int i] ∧ i.natAbs.log2 < 1920 ∧ Q (.str (toString i)) H
theorem str_i {m : Nat} (b : Bd m i) (l : m < 1920) (q : Q (.str (tx i)) H) : StrIK [.int i] H Q := ⟨i, rfl, Nat.lt_of_le_of_lt (log_of b) l, q⟩
theorem call_strG {X : Cx} : CallR X (.type "str") StrIK := call_str_int
/-! repr -/
theorem empty_app (z : Str) : Str.empty ++ z = z := by
  have e : (Str.empty ++ z) = z := by
    first
      | rfl
      | simp
      | (show Str.append Str.empty z = z; unfold Str.append Str.empty; simp)
  exact e
theorem shown_t2 {m n : Nat} (b1 : Bd m i) (l1 : m < 1920) (b2 : Bd n j) (l2 : n < 1920) : (PyData.shown (.tuple [.int i, .int j])).length ≤ 4000 := by
  have h1 : (tx i).length ≤ 1921 := LB.int b1 l1
  have h2 : (tx j).length ≤ 1921 := LB.int b2 l2
  have e : PyData.shown (.tuple [.int i, .int j]) = ("(" : Str) ++ (tx i ++ (", " : Str) ++ tx j) ++ (")" : Str) := by
    simp only [PyData.shown_tuple, PyData.shownAll_cons, PyData.shownAll_nil, PyData.shown_int]
    rfl
  rw [e]
  simp only [strLen_append]
  have : ("(" : Str).length = 1 := by decide
  have : (", " : Str).length = 2 := by decide
  have : (")" : Str).length = 1 := by decide
  omega
theorem repr_t2 {m n : Nat} (h : SqT KF H a [.int i, .int j]) (b1 : Bd m i) (l1 : m < 1920) (b2 : Bd n j) (l2 : n < 1920) (q : Q (.str (PyData.shown (.tuple [.int i, .int j]))) H) : rReprG KF [.ref a] H Q :=
  ⟨.ref a, .tuple [.int i, .int j], rfl, .tup h (.cons (.int _) (.cons (.int _) .nil)), by simp [PyData.showable, PyData.showableAll, Nat.lt_of_le_of_lt (log_of b1) l1, Nat.lt_of_le_of_lt (log_of b2) l2], by rfl,
    Nat.le_trans (shown_t2 b1 l1 b2 l2) (by rw [sizeLine_eq]; decide), by simp [PyData.depth, PyData.depthAll], q⟩
theorem st_glst {m : Nat} {g : TGs} {xs : List V} {n : L2.St → Hp → Prop} (h : SqL KF H a xs) (l : xs.length = m) (q : g xs σ H n) : gLst KF m g (.ref a) σ H n := ⟨a, xs, rfl, h, l, q⟩
end
end G
namespace G
open PySem PySem.Spec PyProof.Rows L2
section
variable {σ : L2.St} {H : Hp} {x : V}
/-- name op= e -/
theorem st_aug {i : Nat} {ti : TIp} {D : Ends} {te : TE} (h : σ[i]? = some (some x)) (q : te σ H fun y H1 => ti x y H1 fun z H2 => gName i z σ H2 D.nx) : tAug i te ti D σ H := ⟨x, h, q⟩
end
end G
namespace G
open PySem PySem.Spec PyProof.Rows L2
/-! ### the head's facts over the part that some names of the module reach -/
/-- new addresses: those whose bit is not set yet -/
def addB {T : Type} : List Addr → Nat → List Addr → (Nat → List Addr → T) → T
  | [], m, acc, k => k m acc
  | b :: r, m, acc, k => match Nat.beq (Nat.land (Nat.shiftRight m b) 1) 1 with
    | true => addB r m acc k
    | false => HandSHeadRun.frNat (Nat.lor m (Nat.shiftLeft 1 b)) fun m' => HandSHeadRun.frNat b fun b' => addB r m' (b' :: acc) k
def reachB {T : Type} (g : Addr → Option Obj) : List Addr → Nat → List Addr → (Nat → List Addr → T) → T
  | [], m, acc, k => k m acc
  | a :: r, m, acc, k => match g a with
    | some o => addB (He.refsD o) m acc fun m' acc' => reachB g r m' acc' k
    | none => reachB g r m acc k
/-- n levels, from a row of addresses on -/
def levelsB {T : Type} (g : Addr → Option Obj) : Nat → List Addr → Nat → List Addr → (List Addr → T) → T
  | 0, _, _, all, k => k all
  | n + 1, fr, m, all, k => reachB g fr m [] fun m' new => levelsB g n new m' (new ++ all) k
def namedB (g : Addr → Option Obj) (xs : List Str) : List Addr := xs.filterMap fun x => match PySem.W.nsIn (He.frG g [mainGlobals]) mainGlobals x with
  | some (some (.ref a)) => some a
  | _ => none
/-- what these names reach, but nothing by the module's own dict -/
def asB {T : Type} (g : Addr → Option Obj) (xs : List Str) (n : Nat) (k : List Addr → T) : T := addB (namedB g xs) (Nat.lor (Nat.shiftLeft 1 mainGlobals) (Nat.lor (Nat.shiftLeft 1 builtinsNs) (Nat.shiftLeft 1 cStatics))) [] fun m new =>
  levelsB g n new m (new ++ [mainGlobals, builtinsNs, cStatics]) k
/-- without the tables of code objects -/
def isTab (o : Obj) : Bool := match o.cls, o.data with
  | .none, .fields _ => true
  | _, _ => false
def noTab (g : Addr → Option Obj) : Addr → Option Obj := fun a => match g a with
  | some o => (match isTab o with
    | true => none
    | false => some o)
  | none => none
theorem noTab_of {g : Addr → Option Obj} {a : Addr} {o : Obj} (h : noTab g a = some o) : g a = some o := by
  unfold noTab at h
  split at h
  · rename_i o' e
    split at h
    · cases h
    · rw [e]
      exact h
  · cases h
def obsNG (xs : List Str) (n : Nat) (ex : List ExB) (fn : List He5.DefA) (g : Addr → Option Obj) : He.AlD := obsX ex fn (He.frG (noTab g) (asB g xs n fun as => as))
def hookN (xs : List Str) (n : Nat) (ex : List ExB) (fn : List He5.DefA) : PySem.W.Hook where
  α := He.AlD
  obs := fun s => obsNG xs n ex fn s.heap.get?
  val := fun _ => He5.valA fn
  says := fun _ h => ∃ K : PySem.W.Frag, K.In h ∧ SaysX ex fn K
  of := fun _ _ e => ⟨_, fun b o q => noTab_of (He.frG_at _ q), e⟩
  keeps := fun _ _ _ ⟨K, hK, c⟩ k => ⟨K, PySem.W.Frag.In.keeps hK k, c⟩
theorem obsNG_eq {xs : List Str} {n : Nat} {ex : List ExB} {fn : List He5.DefA} {g : Addr → Option Obj} {s : Shared} (h : ∀ a, g a = s.heap.get? a) : obsNG xs n ex fn g = (hookN xs n ex fn).obs s := by
  have e : g = s.heap.get? := funext h
  rw [e] <;> rfl
/-- three looks at one run -/
theorem map3 {S A B C : Type} {o : Option S} {f : S → A} {g : S → B} {k : S → C} {a : A} {b : B} {c : C} (h1 : o.map f = some a) (h2 : o.map g = some b) (h3 : o.map k = some c) : o.map (fun s => (f s, g s, k s)) = some (a, b, c) := by
  cases o with
  | none => cases h1
  | some s =>
    cases (show f s = a from Option.some.inj h1)
    cases (show g s = b from Option.some.inj h2)
    cases (show k s = c from Option.some.inj h3)
    rfl
end G
namespace G
open PySem PySem.Spec PySem.Calls PyProof.Rows L2
/-! ### rules for an object of any class that has the def -/
section
variable {X : Cx} {CX : CXT} {k : Nat} {f g C : Addr} {fd : FuncData} {ps : List Str} {sp : Sp} {dvs : List V} {ds : List Value} {E : XK} {x m : Str} {p pos apos : Pos} {e o : Expr} {es : List Expr} {ta : TE} {t : TA} {pins : List (Addr × Obj)} {σ : L2.St} {H : Hp} {s : Shared} {Q : VK} {pl : Sem Bool}
def RecvP (K : PySem.W.Frag) (m : Str) (f : Addr) (x : V) (H : Hp) (R : Prop) : Prop := ∃ a C dx fs, x = .ref a ∧ H a = some (.ins C dx fs) ∧ Cls K C ∧ Meth K C m f ∧ fs.lookup m = none ∧ R
/-- o.m(..) -/
def tMethP (K : PySem.W.Frag) (m : Str) (f : Addr) (sp : Sp) (dvs : List V) (E : XK) (ta : TE) (t : TA) : TE := fun σ H Q => ta σ H fun x H1 => RecvP K m f x H1 (t σ H1 fun vs H2 => sp (x :: (vs ++ dvs)) H2 Q E)
theorem pe_methP (he : PE X o ta) (F : FnG X.prog X.w X.K X.mg X.base CX k f fd ps sp) (hr : RoomG k X.A) (hb : Binds X.K fd ps ds) (hd : Vals dvs ds) (hx : Passes CX X E) (ha : PA X (e :: es) t)
    (hst : starEach (e :: es) X.env = (false, eval e X.env) :: starEach es X.env := by rfl) (hpl : (backTo pos (starEach es X.env)).any (·.1) = false := by rfl) (ht : MethT X o m apos pos (e :: es) [] pl := by rfl) :
    PE X (.Call (.Attribute o m apos) (e :: es) [] pos) (tMethP X.K m f sp dvs E ta t) :=
  ⟨fun pins s σ H _ I h => PySem.W.methodCall_KW (pl := pl) (thn (he.run pins s σ H _ I h) fun u s1 ⟨x, H1, J, rx, a, C, dx, fs, ex, ea, c, hm, l, q⟩ => by
    subst ex
    cases (show u = Value.ref a from rx)
    exact getmeth_ok J ea c hm l (PySem.W.callWith_K (first := [.ref a]) (h₀ := X.base) J.ok.mod.kin hm.kp (thn (ha.run pos pins s1 σ H1 _ J q) fun us _ ⟨vs, _, J2, r, q2⟩ => ⟨J2.kIn, run_fnG (us := .ref a :: us) (vs := .ref a :: vs) F hr hb hd hx J2 (.cons rfl r) q2⟩) hst hpl)) ht⟩
theorem pe_methP0 (he : PE X o ta) (F : FnG X.prog X.w X.K X.mg X.base CX k f fd ps sp) (hr : RoomG k X.A) (hb : Binds X.K fd ps ds) (hd : Vals dvs ds) (hx : Passes CX X E)
    (ht : MethT X o m apos pos [] [] pl := by rfl) : PE X (.Call (.Attribute o m apos) [] [] pos) (tMethP X.K m f sp dvs E ta tNil) :=
  ⟨fun pins s σ H _ I h => PySem.W.methodCall_KW (pl := pl) (thn (he.run pins s σ H _ I h) fun u s1 ⟨x, H1, J, rx, a, C, dx, fs, ex, ea, c, hm, l, q⟩ => by
    subst ex
    cases (show u = Value.ref a from rx)
    exact getmeth_ok J ea c hm l (PySem.W.callWith_K0 (first := [.ref a]) J.kIn hm.kp (run_fnG (us := [.ref a]) (vs := [.ref a]) F hr hb hd hx J (.cons rfl .nil) q))) ht⟩
/-- o.x, a property -/
def PropK (K : PySem.W.Frag) (m : Str) (g : Addr) (x : V) (H : Hp) (R : Prop) : Prop := ∃ a C dx fs p, x = .ref a ∧ H a = some (.ins C dx fs) ∧ Cls K C ∧ PropOf K C m p g ∧ R
def tPropP (K : PySem.W.Frag) (m : Str) (g : Addr) (sp : Sp) (E : XK) (ta : TE) : TE := fun σ H Q => ta σ H fun x H1 => PropK K m g x H1 (sp [x] H1 Q E)
theorem getpropG {a dx : Addr} {fs : List (Str × V)} {b : Bool} {q : Addr} (I : Inv X pins σ H s) (ea : H a = some (.ins C dx fs)) (c : Cls X.K C) (hp : PropOf X.K C m q g)
    (F : FnG X.prog X.w X.K X.mg X.base CX k g fd ps sp) (hr : RoomG (k + 1) X.A) (hb : Binds X.K fd ps []) (hx : Passes CX X.nox E) (h : sp [.ref a] H Q E) :
    wpAny (model X.prog X.w) X.A (getAttr (.ref a) m b) (EP X pins σ Q) X.xe s := by
  obtain ⟨mA, O, _, _, _, _⟩ := ins_get I.hok ea
  obtain ⟨od, J, _⟩ := O.look
  obtain ⟨rest, hrec⟩ := hp.rec_
  have I1 := I.tok (s.toks + 1)
  have hl : ([Value.ref a] ++ []).length = ps.length := by
    rw [← F.len h]
    rfl
  have hc : (PySem.W.clsIn X.K C).isSome = true := by
    obtain ⟨cd, hc, _⟩ := PySem.W.any_some c.hd
    rw [hc]
    rfl
  refine PySem.W.get_bind I.kIn J (PySem.W.plainGet_of (c.get m)).1 (PySem.W.findObj_data hc hp.at_ hp.get hp.tak) (PySem.W.plainGet_of (c.get m)).2 (wpAny_call (PySem.W.prop_get (s := { s with toks := s.toks + 1 }) I.kIn hrec ?_))
  refine codeAny_mono (F.run (us := [.ref a]) (vs := [.ref a]) hr.in1 I1.env0.in1 (hb _ [.ref a] I1.kIn hl) (.cons rfl .nil) h) fun r s' hq => ?_
  match r, hq with
  | .error er, hq => exact False.elim (hx pins σ H { s with toks := s.toks + 1 } er s' (I1.wish _) hq)
  | .ok (.ret u), hq =>
    obtain ⟨v, H', I3, rv, q3⟩ := I1.after hq
    show wpAny _ _ (handedOut u) _ _ _
    rw [PySem.W.handedOut_of (handed_of rv)]
    exact wpAny_pure ⟨v, H', I3, rv, q3⟩
theorem pe_propP (he : PE X e ta) (F : FnG X.prog X.w X.K X.mg X.base CX k g fd ps sp) (hr : RoomG (k + 1) X.A) (hb : Binds X.K fd ps []) (hx : Passes CX X.nox E)
    (hab : attributeBase e m X.env (eval e X.env) = eval e X.env) : PE X (.Attribute e m pos) (tPropP X.K m g sp E ta) := by
  refine ⟨fun pins s σ H Q I h => ?_⟩
  refine attr_of hab (thn (he.run pins s σ H _ I h) fun u s1 ⟨x, H1, I1, rx, a, C, dx, fs, p, ex, ea, c, hp, q⟩ => ?_)
  subst ex
  obtain rfl : u = Value.ref a := rx
  exact getpropG I1 ea c hp F hr hb hx q
/-- x op y, a comparison by the def of x's class -/
def rCmpP (K : PySem.W.Frag) (nm : Str) (g : Addr) (sp : Sp) (E : XK) : R2 := fun x y H Q => ∃ a C dx fs t, x = .ref a ∧ H a = some (.ins C dx fs) ∧ OwnM K C nm g ∧ TyX K H y t ∧ PySem.W.notFirst K C t = true ∧ sp [x, y] H Q E
theorem op_cmpP {op : CmpOp} (hop : ∀ a b, compareOp op a b = richCompare op a b) (F : FnG X.prog X.w X.K X.mg X.base CX k g fd ps sp) (hr : RoomG k X.A) (hb : Binds X.K fd ps []) (hx : Passes CX X E) :
    OpR X (compareOp op) (rCmpP X.K (cmpInfo op).2.1 g sp E) := fun pins s σ H x y v u Q I rx ry ⟨a, C, dx, fs, t, ex, ha, hs, ty, hn, q⟩ =>
  op_cmpO (C := C) hop hs F hr hb hx pins s σ H x y v u Q I rx ry ⟨a, dx, fs, t, ex, ha, ty, hn, q⟩
/-- x != y by x's own __eq__ -/
def rNeP (K : PySem.W.Frag) (g : Addr) (sp : Sp) (E : XK) : R2 := fun x y H Q => ∃ a C dx fs t, x = .ref a ∧ H a = some (.ins C dx fs) ∧ NeM K C g ∧ TyX K H y t ∧ PySem.W.notFirst K C t = true ∧ sp [x, y] H (fun v H' => ∃ b : Bool, v = .bl b ∧ Q (.bl (!b)) H') E
theorem op_neP (F : FnG X.prog X.w X.K X.mg X.base CX k g fd ps sp) (hr : RoomG (k + 1) X.A) (hb : Binds X.K fd ps []) (hx : Passes CX X E) : OpR X (fun v u => compareOp .NotEq v u) (rNeP X.K g sp E) := fun pins s σ H x y v u Q I rx ry ⟨a, C, dx, fs, t, ex, ha, hs, ty, hn, q⟩ =>
  op_neO (C := C) hs F hr hb hx pins s σ H x y v u Q I rx ry ⟨a, dx, fs, t, ex, ha, ty, hn, q⟩
end
section
variable {K : PySem.W.Frag} {m : Str} {f g : Addr} {x : V} {H : Hp} {R : Prop} {sp : Sp} {E : XK} {ta : TE} {tl : TA} {σ : L2.St} {Q : VK}
theorem st_methP (q : ta σ H fun x H1 => RecvP K m f x H1 (tl σ H1 fun vs H2 => sp (x :: vs) H2 Q E)) : tMethP K m f sp [] E ta tl σ H Q := by
  unfold tMethP
  simp only [List.append_nil]
  exact q
theorem st_propP (q : ta σ H fun x H1 => PropK K m g x H1 (sp [x] H1 Q E)) : tPropP K m g sp E ta σ H Q := q
/-- a constant of the class -/
def ConK (K : PySem.W.Frag) (m : Str) (x : V) (H : Hp) (Q : VK) : Prop := ∃ a C dx fs v u, x = .ref a ∧ H a = some (.ins C dx fs) ∧ Cls K C ∧ Con K C m v u ∧ fs.lookup m = none ∧ Q v H
theorem st_con (q : ta σ H fun x H1 => ConK K m x H1 Q) : tCon K ta m σ H Q := q
end
/-! facts: what a class has from the one above it -/
section
variable {K : PySem.W.Frag} {x y m : Str}
def inhB (x y m : Str) : ExB := fun K => Nat.beq (He.ma K (He.ga K x) m) (He.ma K (He.ga K y) m)
theorem inhB_ok (h : inhB x y m K = true) : He.ma K (He.ga K x) m = He.ma K (He.ga K y) m := Nat.eq_of_beq_eq_true h
def inhP (x y m : Str) : ExB := fun K => Nat.beq (prA x m K) (prA y m K)
theorem inhP_ok (h : inhP x y m K = true) : prA x m K = prA y m K := Nat.eq_of_beq_eq_true h
/-- an int of the class -/
def conB (x m : Str) (i : Int) : ExB := fun K => (match PySem.W.findIn K (.ref (He.ga K x)) m with
  | some (some (.int j t)) => decide (i = j) && He.eqO (PySem.W.specialIn K (.int j t) "__get__") (some none)
  | _ => false) && !PySem.W.copiedNames.contains m
theorem conB_ok {i : Int} (h : conB x m i K = true) : ∃ u, Con K (He.ga K x) m (.int i) u := by
  obtain ⟨h1, h2⟩ := He.ba h
  split at h1
  · rename_i j t e
    obtain ⟨h3, h4⟩ := He.ba h1
    have := of_decide_eq_true h3
    subst this
    exact ⟨.int i t, e, ⟨t, rfl⟩, He.eqO_ok h4, by simpa using h2⟩
  · cases h1
end
end G
namespace G
open PySem PySem.Spec PySem.Calls PyProof.Rows L2
/-! ### more rules: ints of the module, ints ahead, data by their texts and as one another -/
section
variable {ex : List ExB} {fn : List He5.DefA} {K : PySem.W.Frag} {mg : Str → Option Value}
def gintB (x : Str) (i : Int) : ExB := fun K => match PySem.W.nsIn K mainGlobals x with
  | some (some (.int j _)) => decide (i = j)
  | _ => false
theorem gint_ok (T : Txt ex fn K mg) (n : Nat) (x : Str) {i : Int} (h : ex[n]? = some (gintB x i)) : ∃ u, mg x = some (.int i u) := by
  have c := T.fact n h
  unfold gintB at c
  split at c
  · rename_i j u e
    have := of_decide_eq_true c
    subst this
    exact ⟨u, T.glo x _ e⟩
  · cases c
end
section
variable {KF : PySem.W.Frag} {H : Hp} {Q : VK} {a d : Addr} {i j : Int} {s z : Str} {b c : Bool}
theorem repr_i {m : Nat} (b1 : Bd m i) (l1 : m < 1920) (q : Q (.str (PyData.shown (.int i))) H) : rReprG KF [.int i] H Q :=
  ⟨.int i, .int i, rfl, .int i, by simp [PyData.showable, Nat.lt_of_le_of_lt (log_of b1) l1], by rfl, by
    rw [PyData.shown_int]
    have h1 : (tx i).length ≤ 1921 := LB.int b1 l1
    exact Nat.le_trans h1 (by rw [sizeLine_eq]; decide), by simp [PyData.depth], q⟩
theorem repr_b (q : Q (.str (PyData.shown (.bool b))) H) : rReprG KF [.bl b] H Q :=
  ⟨.bl b, .bool b, rfl, .bl b, by simp [PyData.showable], by rfl, by cases b <;> (rw [sizeLine_eq]; decide +kernel), by simp [PyData.depth], q⟩
theorem repr_lib {m : Nat} (h : SqL KF H a [.int i, .bl b]) (b1 : Bd m i) (l1 : m < 1920) (q : Q (.str (PyData.shown (.list [.int i, .bool b]))) H) : rReprG KF [.ref a] H Q :=
  ⟨.ref a, .list [.int i, .bool b], rfl, .lst h (.cons (.int _) (.cons (.bl _) .nil)), by simp [PyData.showable, PyData.showableAll, Nat.lt_of_le_of_lt (log_of b1) l1], by rfl, by
    have h1 : (tx i).length ≤ 1921 := LB.int b1 l1
    have h2 : (PyData.shown (.bool b)).length ≤ 5 := by cases b <;> decide +kernel
    have e : PyData.shown (.list [.int i, .bool b]) = ("[" : Str) ++ (tx i ++ (", " : Str) ++ PyData.shown (.bool b)) ++ ("]" : Str) := by
      simp only [PyData.shown_list, PyData.shownAll_cons, PyData.shownAll_nil, PyData.shown_int]
      rfl
    rw [e, sizeLine_eq]
    simp only [strLen_append]
    have : ("[" : Str).length = 1 := by decide
    have : (", " : Str).length = 2 := by decide
    have : ("]" : Str).length = 1 := by decide
    omega, by simp [PyData.depth, PyData.depthAll], q⟩
theorem eq_l4b {i0 i1 i2 i3 j0 j1 j2 j3 : Bool} (h1 : SqL KF H a [.bl i0, .bl i1, .bl i2, .bl i3]) (h2 : SqL KF H d [.bl j0, .bl j1, .bl j2, .bl j3]) (q : Q (.bl (decide (i0 = j0 ∧ i1 = j1 ∧ i2 = j2 ∧ i3 = j3))) H) : rEqG KF (.ref a) (.ref d) H Q :=
  .inr ⟨_, _, .lst h1 (.cons (.bl _) (.cons (.bl _) (.cons (.bl _) (.cons (.bl _) .nil)))), .lst h2 (.cons (.bl _) (.cons (.bl _) (.cons (.bl _) (.cons (.bl _) .nil)))), by rfl, by rfl, by
    have e : PyData.eqv (.list [.bool i0, .bool i1, .bool i2, .bool i3]) (.list [.bool j0, .bool j1, .bool j2, .bool j3]) = decide (i0 = j0 ∧ i1 = j1 ∧ i2 = j2 ∧ i3 = j3) := by simp [PyData.eqv, PyData.eqvAll, Bool.beq_eq_decide_eq, Bool.decide_and, Bool.and_assoc]
    rw [e]
    exact q⟩
theorem eqv_tsi : PyData.eqv (.tuple [.str s, .int i]) (.tuple [.str z, .int j]) = decide (s = z ∧ i = j) := by simp [PyData.eqv, PyData.eqvAll, Bool.beq_eq_decide_eq]
theorem shp_si (k : (PyData.str s).canLay0 = true) : SeqAt.shaped (.tuple [.str s, .int i]) = true := by
  have k' : PyData.strOk s = true := k
  simp [SeqAt.shaped, PyData.canLay0, PyData.canLayAll0, PyData.depth, PyData.depthAll, k']
theorem eq_tsi (k1 : (PyData.str s).canLay0 = true) (k2 : (PyData.str z).canLay0 = true) (h1 : SqT KF H a [.str s, .int i]) (h2 : SqT KF H d [.str z, .int j]) (q : Q (.bl (decide (s = z ∧ i = j))) H) : rEqG KF (.ref a) (.ref d) H Q :=
  eq_dd (.tup h1 (.cons (.str _) (.cons (.int _) .nil))) (.tup h2 (.cons (.str _) (.cons (.int _) .nil))) (shp_si k1) (shp_si k2) (by rw [eqv_tsi]; exact q)
theorem ne_tsi (k1 : (PyData.str s).canLay0 = true) (k2 : (PyData.str z).canLay0 = true) (h1 : SqT KF H a [.str s, .int i]) (h2 : SqT KF H d [.str z, .int j]) (q : Q (.bl (!decide (s = z ∧ i = j))) H) : rNeG KF (.ref a) (.ref d) H Q :=
  ne_dd (.tup h1 (.cons (.str _) (.cons (.int _) .nil))) (.tup h2 (.cons (.str _) (.cons (.int _) .nil))) (shp_si k1) (shp_si k2) (by rw [eqv_tsi]; exact q)
theorem ne_l0 (h1 : SqL KF H a []) (h2 : SqL KF H d []) (q : Q (.bl false) H) : rNeG KF (.ref a) (.ref d) H Q :=
  ne_dd (.lst h1 .nil) (.lst h2 .nil) (by rfl) (by rfl) (by
    have e : PyData.eqv (.list []) (.list []) = true := by rfl
    rw [e]
    exact q)
end
end G
namespace G
open PySem PySem.Spec PyProof.Rows L2
/-! ### one list changes, over a row of steps -/
section
variable {p : Addr} {H H1 H2 H' : Hp}
def MdT (p : Addr) (H H1 H' : Hp) : Prop := Md p H H1 → Md p H H'
theorem mdt_go (m : Md p H H1) (r : MdT p H H1 H') : Md p H H' := r m
theorem mdt_z : MdT p H H' H' := id
theorem mdt_k (k : Kp H1 H2) (r : MdT p H H2 H') : MdT p H H1 H' := fun m => r (m.kp_r k)
theorem mdt_m (k : Md p H1 H2) (r : MdT p H H2 H') : MdT p H H1 H' := fun m => r (m.trans k)
theorem mdt_s {xs : List V} (h : H p = some (.lst xs)) : Md p H H := Md.of_kp h Kp.refl
end
section
variable {X : Cx} {CX : CXT} {k : Nat} {g : Addr} {fd : FuncData} {ps : List Str} {sp : Sp} {E : XK}
theorem op_eqQ (F : FnG X.prog X.w X.K X.mg X.base CX k g fd ps sp) (hr : RoomG k X.A) (hb : Binds X.K fd ps []) (hx : Passes CX X E) : OpR X (compareOp .Eq) (rCmpP X.K (cmpInfo .Eq).2.1 g sp E) := op_cmpP (fun _ _ => rfl) F hr hb hx
theorem op_neQ (F : FnG X.prog X.w X.K X.mg X.base CX k g fd ps sp) (hr : RoomG (k + 1) X.A) (hb : Binds X.K fd ps []) (hx : Passes CX X E) : OpR X (compareOp .NotEq) (rNeP X.K g sp E) := op_neP F hr hb hx
theorem op_eqR {K : PySem.W.Frag} (hK : X.K = K) (F : FnG X.prog X.w K X.mg X.base CX k g fd ps sp) (hr : RoomG k X.A) (hb : Binds K fd ps []) (hx : Passes CX X E) : OpR X (compareOp .Eq) (rCmpP K (cmpInfo .Eq).2.1 g sp E) := by
  subst hK
  exact op_eqQ F hr hb hx
theorem op_neR {K : PySem.W.Frag} (hK : X.K = K) (F : FnG X.prog X.w K X.mg X.base CX k g fd ps sp) (hr : RoomG (k + 1) X.A) (hb : Binds K fd ps []) (hx : Passes CX X E) : OpR X (compareOp .NotEq) (rNeP K g sp E) := by
  subst hK
  exact op_neQ F hr hb hx
end
theorem st_lcF {te : TE} {D : Addr} {σ2 : L2.St} {H : Hp} {R : Hp → Prop} (q : R H) : LcB false te D σ2 H R := by unfold LcB; rw [if_neg Bool.false_ne_true]; exact q
end G
namespace G
open PySem PySem.Spec PySem.Calls PyProof.Rows L2
/-! ### o.m(..), where the attribute m holds an object whose class has __call__ -/
section
variable {M : Model} {A : Around} {E : Value → Shared → Prop} {s : Shared} {K : PySem.W.Frag} {env : Env} {pos : Pos} {b C : Addr} {Q : Value → Shared → Prop}
/-- an own object stands there, as it is now -/
def Stand (K : PySem.W.Frag) (b C : Addr) (h : Heap) : Prop := K.In h ∧ ∃ (ox : Obj) (od : Option Obj), ox.data = .plain ∧ PySem.W.InstAt h b ox C od
theorem keeperB {h : Heap} (z : Stand K b C h) : PySem.W.Looks M h (keeperOf (.ref b)) .caller := let ⟨_, _, _, hd, I⟩ := z; PySem.W.kco_keeper I hd
theorem callWithB {es : List (Bool × Sem Value)} (np : (es.any (·.1) || ([] : List (Option Str × Sem Value)).any (·.1.isNone)) = false)
    (h : wpAny M A (evalArgs (.ref b) true es []) (fun a t => Stand K b C t.heap ∧ wpAny M A (call (.ref b) ([] ++ a.pos) a.kw) Q E t) E s) : wpAny M A (callWith pos (.ref b) [] es []) Q E s := by
  unfold callWith
  refine wpAny_bind (wpAny_holding (wpAny_mono h (fun a t z => ?_) fun _ _ y => y))
  refine wpAny_bind (wpAny_standAt ?_)
  have lk := keeperB (M := M) z.1
  simp only [np]
  refine wpAny_bind (lk.here ?_)
  refine wpAny_bind (wpAny_mono (wpAny_operateT z.2) (fun r u hr => ?_) fun _ _ y => y)
  exact wpAny_bind (wpAny_holding (wpAny_point (wpAny_pure hr)))
end
section
variable {X : Cx} {CX : CXT} {k : Nat} {g : Addr} {fd : FuncData} {ps : List Str} {sp : Sp} {dvs : List V} {ds : List Value} {E : XK} {m : Str} {p pos apos : Pos} {e o : Expr} {es : List Expr} {ta : TE} {t : TA} {pl : Sem Bool}
/-- the attribute's object, and that it can be called -/
def AttK (K : PySem.W.Frag) (m : Str) (g : Addr) (x : V) (H : Hp) (R : V → (Hp → Prop) → Prop) : Prop := ∃ a C dx fs b D, x = .ref a ∧ H a = some (.ins C dx fs) ∧ Cls K C ∧ NoAttr K C m ∧ fs.lookup m = some (.ref b) ∧ OwnM K D "__call__" g ∧ PySem.W.fnIn K g = true ∧
  R (.ref b) fun H2 => ∃ dy gs, H2 b = some (.ins D dy gs)
def tCallF (K : PySem.W.Frag) (m : Str) (g : Addr) (sp : Sp) (dvs : List V) (E : XK) (ta : TE) (t : TA) : TE := fun σ H Q => ta σ H fun x H1 => AttK K m g x H1 fun y st => t σ H1 fun vs H2 => st H2 ∧ sp (y :: (vs ++ dvs)) H2 Q E
theorem pe_callF (he : PE X o ta) (F : FnG X.prog X.w X.K X.mg X.base CX k g fd ps sp) (hr : RoomG k X.A) (hb : Binds X.K fd ps ds) (hd : Vals dvs ds) (hx : Passes CX X E) (ha : PA X (e :: es) t)
    (hst : starEach (e :: es) X.env = (false, eval e X.env) :: starEach es X.env := by rfl) (hpl : (backTo pos (starEach es X.env)).any (·.1) = false := by rfl) (ht : MethT X o m apos pos (e :: es) [] pl := by rfl) :
    PE X (.Call (.Attribute o m apos) (e :: es) [] pos) (tCallF X.K m g sp dvs E ta t) := by
  refine ⟨fun pins s σ H Q I h => PySem.W.methodCall_KW (pl := pl) (thn (he.run pins s σ H _ I h) fun u s1 ⟨x, H1, J, rx, a, C, dx, fs, b, D, ex, ea, c, na, l, ow, hfn, q⟩ => ?_) ht⟩
  subst ex
  cases (show u = Value.ref a from rx)
  obtain ⟨ox, od, _, I0⟩ := inst_of J ea
  refine PySem.W.method_usual J.kIn I0 (PySem.W.plainGet_of (c.get m)).1 (PySem.W.plainGet_of (c.get m)).2 na (by rfl) (getattr_ok J ea c na l fun u s2 J2 ru => ?_)
  cases (show u = Value.ref b from ru)
  have ar := thn (ha.run pos pins s2 σ H1 _ J2 q) (Q' := fun us s3 => Stand X.K b D s3.heap ∧ wpAny (model X.prog X.w) X.A (call (.ref b) us) (EP X pins σ Q) X.xe s3) fun us s3 ⟨vs, H2, J3, r, ⟨dy, gs, eb⟩, q2⟩ => by
    obtain ⟨oy, oe, hd', I3⟩ := inst_of J3 eb
    refine ⟨⟨J3.kIn, oy, oe, hd', I3⟩, wpAny_call (PySem.W.kco_code J3.kIn I3 hd' ow.at_ ow.fn hfn ?_)⟩
    have rv : Vals (V.ref b :: vs) (Value.ref b :: us) := .cons rfl r
    refine codeAny_mono (run_at (args := ⟨.ref b :: us, []⟩) (ws := .ref b :: us ++ ds) (vs := .ref b :: vs ++ dvs) F hr J3.env0 hx J3 (hb _ _ J3.kIn (len_of F hd rv q2)) (rv.append hd) q2) fun r s' hq => ?_
    · match r, hq with
      | .error _, hq => exact hq
      | .ok (.ret _), hq => exact hq
  show wpAny _ _ (callWith pos (.ref b) [] (backTo pos (starEach (e :: es) X.env)) []) _ _ _
  rw [hst] at ar ⊢
  exact callWithB (K := X.K) (C := D) (by show ((false || (backTo pos (starEach es X.env)).any (·.1)) || false) = false; rw [hpl]; rfl) (evalArgs_plain ar)
end
end G
namespace G
open PySem PySem.Spec PyProof.Rows L2
section
variable {g : TG} {tt : TT} {te : TE} {tl : TA} {ta : TE} {vs : List Nat} {σ σ0 : L2.St} {H H1 : Hp} {Q : VK} {K : PySem.W.Frag} {a : Addr} {m : Str} {f : Addr} {sp : Sp} {E : XK}
/-! a tuple gone through -/
def ITK (K : PySem.W.Frag) (x : V) (H : Hp) (R : It → Hp → Prop) : Prop := ∃ a, x = .ref a ∧ (∃ xs, SqT K H a xs) ∧ R (Itt K a) H
theorem st_iTup {R : It → Hp → Prop} (q : te σ H fun x H1 => ITK K x H1 R) : iTup K te σ H R := q
theorem st_iTK {xs : List V} {R : It → Hp → Prop} (h : SqT K H a xs) (q : R (Itt K a) H) : ITK K (.ref a) H R := ⟨a, rfl, ⟨xs, h⟩, q⟩
theorem lc_tupG {xs : List V} (Pv : Addr → Nat → Hp → Prop) (e : wipe σ vs = σ0) (h0 : ∀ D H2, H1 D = none → Kp H1 H2 → H2 D = some (.lst []) → Pv D 0 H2) (hl : ∀ D i H, i ≤ xs.length → Pv D i H → SqT K H a xs)
    (hs : ∀ D i x H, xs[i]? = some x → Pv D i H → g x σ0 H fun σ2 H2 => WipK vs σ2 σ0 (tt σ2 H2 fun b H3 => LcB b te D σ2 H3 (Pv D (i + 1)))) (hd : ∀ D H, Pv D xs.length H → Q (.ref D) H) : LcK (Itt K a) g tt te vs σ H1 Q := fun D hD => by
  subst e
  exact lc_tup (Pv D) (h0 D _ hD (Kp.new hD) upd_same) (hl D) (hs D) (hd D)
/-! all of some Bools -/
theorem all_l {bs : List Bool} (h : SqL K H a (bs.map V.bl)) (q : Q (.bl (bs.all id)) H) : rAll K [.ref a] H Q := ⟨a, bs, rfl, h, q⟩
/-! an attribute's object called -/
theorem st_callF (q : ta σ H fun x H1 => AttK K m f x H1 fun y st => tl σ H1 fun vs H2 => st H2 ∧ sp (y :: vs) H2 Q E) : tCallF K m f sp [] E ta tl σ H Q := by
  unfold tCallF
  simp only [List.append_nil]
  exact q
end
end G
namespace G
open PySem PySem.Spec PyProof.Rows L2 LamX
/-! ### lambdas: made, handed to a def, called there -/
section
variable {X : Cx} {pins : List (Addr × Obj)} {σ : L2.St} {H HZ : Hp} {s s1 : Shared}
/-- a lambda is made: all is kept, its table tells its code object -/
theorem lam_make {c P : Addr} {params : Arguments} {body : Expr} {scope : Scope} {pos : Pos} {E : Value → Shared → Prop} {Q : Value → Shared → Prop} (I : Inv X pins σ H s) (TB : TabB X.base X.mg c P) (hcode : X.env.code = .ref c)
    (hn : NM pos.line pos.col = X.env.qual ++ "<lambda>") (hT : TabP H P) (hdef : defaultsOf params X.env = ([], [])) (hfree : ∀ y ∈ scope.names, y.2 = .free → ∃ c, X.env.cells.lookup y.1 = some c)
    (h : ∀ (f c' : Addr) (pm ctv : Value) (H1 : Hp) (s' : Shared), Inv X pins σ H1 s' → Kp H H1 →
      s'.heap.get? f = some (PySem.W.kla_obj "<lambda>" (X.env.qual ++ "<lambda>") params body scope (cloFrom X.env.cells scope.names []) pm c' ctv) → H1 f = none → f ∉ frs X.stack → H1 c' = some (CodeO c' (X.env.qual ++ "<lambda>")) → Q (.ref f) s') :
    wpAny (model X.prog X.w) X.A (eval (.Lambda params body scope pos) X.env) Q E s := by
  obtain ⟨ps, hP, ht, ha⟩ := hT
  refine PySem.W.kla_eval hdef ?_
  have bP : s.heap.BuiltinsAt X.mg P := TB.bm.keeps I.bk
  have hP' : s.heap.get? P = some { cls := .none, data := .fields ps } := I.hok P _ hP
  have cC := TB.code.keeps I.bk
  have nofr : ∀ f, s.heap.objs.size ≤ f → f ∉ frs X.stack := fun f hf z => by
    rcases List.mem_cons.mp (I.stkSub _ z) with e | e
    · have h1 := I.lt
      rw [← e] at h1
      exact Nat.lt_irrefl _ (Nat.lt_of_lt_of_le h1 hf)
    · exact I.nofs hf e
  cases hc : codeAmong pos ps.toList with
  | some cv =>
    obtain ⟨c', e, hco⟩ := ha pos cv hc
    subst e
    rw [hn] at hco
    refine PySem.W.kla_makeFunctionHit (closure_ok hfree) I.ok.glob (I.mod.glob.keeps I.bk) hcode cC hP' ht hc bP fun ctv h' tk hx hsz => ?_
    exact h _ c' _ ctv H _ (I.kept fun b o e => Heap.get?_push_of_some _ (hx b o e)) Kp.refl (Heap.get?_push_size _ rfl) (I.hok.fresh hsz) (nofr _ hsz) hco
  | none =>
    refine PySem.W.kla_makeFunction (closure_ok hfree) I.ok.glob (I.mod.glob.keeps I.bk) hcode cC hP' ht hc TB.gP bP fun c' ctv h' tk hx hge hlt hrec htb => ?_
    obtain ⟨c2, oc, vs, t, e2, hoc, hd, hv⟩ := hrec
    cases e2
    have hsz : s.heap.objs.size ≤ h'.objs.size := Nat.le_trans hge (Nat.le_of_lt hlt)
    have nC : H c' = none := I.hok.fresh hge
    have nPc : P ≠ c' := ne_of_none hP nC
    have n1 : h'.objs.size ≠ c' := Nat.ne_of_gt hlt
    have n2 : h'.objs.size ≠ P := Nat.ne_of_gt (Nat.lt_of_lt_of_le (Heap.lt_size hP') hsz)
    have J := inv_table (t' := tk) (more := #[rawInt pos.line, rawInt pos.col, .ref c']) (h' := h'.push (PySem.W.kla_obj "<lambda>" (X.env.qual ++ "<lambda>") params body scope (cloFrom X.env.cells scope.names []) ((X.mg "__name__").getD .none) c' ctv)) I hP (fun b o hb e => Heap.get?_push_of_some _ (hx b o hb e)) (Heap.get?_push_of_some _ htb) hge ⟨oc, vs, t, Heap.get?_push_of_some _ hoc, hd, hv⟩
    have far : ∀ b o, H b = some o → nt o = true → upd (upd H P (.tbl (ps ++ #[rawInt pos.line, rawInt pos.col, .ref c']))) c' (CodeO c' (X.env.qual ++ "<lambda>")) b = some o := fun b o e z => by
      rw [upd_ne (ne_of_none e nC), upd_ne (ne_of e hP (fun q => by rw [q] at z; cases z))]
      exact e
    have k : Kp H (upd (upd H P (.tbl (ps ++ #[rawInt pos.line, rawInt pos.col, .ref c']))) c' (CodeO c' (X.env.qual ++ "<lambda>"))) := by
      refine ⟨far, fun b e => ?_, fun P2 t2 => ?_⟩
      · by_cases z : b = c'
        · rw [z]
          exact nC
        · rw [upd_ne z] at e
          by_cases y : b = P
          · rw [y, upd_same] at e
            cases e
          · rw [upd_ne y] at e
            exact e
      · by_cases y : P2 = P
        · subst y
          have eL : (ps ++ #[rawInt pos.line, rawInt pos.col, .ref c']).toList = ps.toList ++ [rawInt pos.line, rawInt pos.col, .ref c'] := by simp
          refine ⟨_, by rw [upd_ne nPc, upd_same], by rw [eL]; exact PySem.TriplesOk_snoc _ _ _ _ ht, fun p' cv hcv => ?_⟩
          rw [eL] at hcv
          rcases NdefX.among_app2 _ ht hcv with z | ⟨z, z1, z2⟩
          · obtain ⟨c0, e1, e2⟩ := ha p' cv z
            exact ⟨c0, e1, far _ _ e2 rfl⟩
          · refine ⟨c', z, ?_⟩
            rw [← z1, ← z2, hn]
            exact upd_same
        · obtain ⟨qs, a1, a2, a3⟩ := t2
          refine ⟨qs, by rw [upd_ne (ne_of_none a1 nC), upd_ne y]; exact a1, a2, fun p' cv hcv => ?_⟩
          obtain ⟨c0, e1, e2⟩ := a3 p' cv hcv
          exact ⟨c0, e1, far _ _ e2 rfl⟩
    refine h _ c' _ ctv _ _ J k (Heap.get?_push_size _ rfl) ?_ (nofr _ hsz) upd_same
    rw [upd_ne n1, upd_ne n2]
    exact I.hok.fresh hsz
/-- a(), in the def that got the lambda; its context: that def's, entered at s -/
theorem pe_actG {CXg : CXT} {Eg : XK} {Ng : List Str} {qg : Str} {sg : Scope} {g f c' : Addr} {cdg pm ctv : Value} {params : Arguments} {body : Expr} {scope : Scope} {k i : Nat} {a : Str} {pn : List (Addr × Obj)} {xe : Value → Shared → Prop} {W : WX} {E : XK} {tb : TE} {p1 p2 : Pos}
    (I : Inv X pins σ H s) (L : LamS X.env.scope scope) (hf : s.heap.get? f = some (PySem.W.kla_obj "<lambda>" (X.env.qual ++ "<lambda>") params body scope (cloFrom X.env.cells scope.names []) pm c' ctv)) (hfn : H f = none) (hfr : f ∉ frs X.stack)
    (hbind : bindArgs (PySem.W.kla_fn "<lambda>" (X.env.qual ++ "<lambda>") params body scope (cloFrom X.env.cells scope.names []) pm (.ref c') ctv) ⟨[], []⟩ = pure [])
    (tk : Takes ((cxOf CXg X.prog X.w X.K X.mg X.base Ng qg sg g cdg X.A X.stack s H Eg).tr pn xe) W) (hW : ∀ cls d σ' H', E cls d H' → W cls d σ' H') (hr : RoomG (k + 1) (X.A.deeper (envOfC qg sg s.heap.objs.size g cdg)))
    (hbody : ∀ (A : Around) (outer : List Env) (s : Shared) (H : Hp), RoomG k (A.deeper (lamEnv X scope s.heap.objs.size f c')) → PE (lamCx X A outer s H E scope f c') body tb)
    (hN : Ng[i]? = some a) (hv : Vis sg a) (hd : (a == ("__debug__" : Str)) = false := by decide) (hcd : (a == ("__classdict__" : Str)) = false := by decide) :
    PE ((cxOf CXg X.prog X.w X.K X.mg X.base Ng qg sg g cdg X.A X.stack s H Eg).tr pn xe) (.Call (.Name a p1) [] [] p2)
      (fun σZ HZ Q => σZ[i]? = some (some (.ref f)) ∧ HZ c' = some (CodeO c' (X.env.qual ++ "<lambda>")) ∧ tb σ HZ Q) := by
  refine ⟨fun pinsZ sZ σZ HZ Q IZ ⟨hs, hc, ht⟩ => ?_⟩
  refine wpAny_Call_Name_kw (thn ((pe_var (pos := p1) (i := i) hN hv hd hcd).run pinsZ sZ σZ HZ (fun v H1 => v = .ref f ∧ H1 = HZ) IZ ⟨.ref f, hs, rfl, rfl⟩) fun u s1 ⟨v, H1, I1, r1, ev, eH⟩ => ?_)
  subst ev eH
  obtain rfl : u = Value.ref f := r1
  have of1 : s1.heap.get? f = some (PySem.W.kla_obj "<lambda>" (X.env.qual ++ "<lambda>") params body scope (cloFrom X.env.cells scope.names []) pm c' ctv) := I1.base.keep f _ hf hfn hfr (fun z => nomatch (show f ∈ ([] : List Addr) from z))
  refine PySem.W.callWith_F0 ⟨_, _, _, _, of1⟩ ?_
  obtain ⟨⟨oc, vs, t, hoc, hdc, hvc⟩, _, _⟩ := I1.hok c' _ hc
  have rc : codeAny (model X.prog X.w) (X.A.deeper (envOfC qg sg s.heap.objs.size g cdg)) (.call (.ref f) ⟨[], []⟩) (CR (L2.CX X.prog X.w) (envOfC qg sg s.heap.objs.size g cdg :: X.stack) X.prog X.w H1 s1 Q E) s1 := by
    refine PySem.W.kla_callFunE hr.rm.depth of1 rfl L.co L.gen rfl ⟨c', oc, vs, t, rfl, hoc, hdc, hvc⟩ ?_
    rw [hbind]
    refine wpAny_pure (wpAny_newFunctionEnv (fun y hy => (L.own y hy).2) (fun y hy => absurd hy (by simp)) (fun h₁ hns hsb => ⟨I1.nolimit.fresh _ hsb, ?_⟩) L.kind)
    have kp : ∀ b o, s1.heap.get? b = some o → h₁.get? b = some o := fun b o e => hsb.extBut b o (Nat.ne_of_lt (Heap.lt_size e)) (Heap.get?_push_of_some _ e)
    have J := lam_start2 (E := E) (f := f) (c' := c') (tk := s1.toks + ([] : List (Str × Value)).length) I L I1.env0 hr.rm.hd I1.base hns kp
    refine PySem.W.kla_codeExpr (wpAny_mono ((hbody _ _ s1 H1 (hr.deeper _)).run [] _ _ H1 Q J ht) (fun v s' ⟨w', H', J', rv, q⟩ => ?_) fun e s' hq => hq)
    exact ⟨w', H', J'.os, J'.bare, J'.base, J'.hok, rv, q⟩
  refine wpAny_call (codeAny_mono rc fun r s' hq => ?_)
  · have hx : Passes (L2.CX X.prog X.w) ((cxOf CXg X.prog X.w X.K X.mg X.base Ng qg sg g cdg X.A X.stack s H Eg).tr pn xe) E := passes_call tk hW
    match r, hq with
    | .error e, hq => exact hx pinsZ σZ H1 s1 e s' I1 hq
    | .ok (.ret u), hq => exact I1.after hq
end
/-- a def that calls what it got (a): TT: what it makes of the lambda's reading -/
def GivesG (X : Cx) (k : Nat) (Ng : List Str) (x : Str) (sg : Scope) (g : Addr) (cdg : Value) (bg : List Stmt) (a q : Str) (TT : (XK → Hp → VK → Prop) → Hp → VK → Prop) : Prop :=
  ∀ (f c' : Addr) (s : Shared) (H : Hp) (Q : VK) (tl : XK → Hp → VK → Prop), RoomG k (X.A.deeper (envOfC x sg s.heap.objs.size g cdg)) →
    (∀ (W : WX) (pn : List (Addr × Obj)) (xe : Value → Shared → Prop) (E : XK) (p1 p2 : Pos), Takes ((cxOf CX0 X.prog X.w X.K X.mg X.base Ng x sg g cdg X.A X.stack s H E0).tr pn xe) W → (∀ cls d σ' H', E cls d H' → W cls d σ' H') →
      PE ((cxOf CX0 X.prog X.w X.K X.mg X.base Ng x sg g cdg X.A X.stack s H E0).tr pn xe) (.Call (.Name a p1) [] [] p2) (fun σZ HZ Q => σZ[0]? = some (some (.ref f)) ∧ HZ c' = some (CodeO c' q) ∧ tl E HZ Q)) →
    H c' = some (CodeO c' q) → TT tl H Q → ∃ t, PSs (cxOf CX0 X.prog X.w X.K X.mg X.base Ng x sg g cdg X.A X.stack s H E0).nox bg t ∧ t { nx := fun _ H' => Q .non H', rt := Q } (start Ng [.ref f]) H
/-- x(lambda: e) -/
def tLamG (P : Addr) (TT : (XK → Hp → VK → Prop) → Hp → VK → Prop) (t : XK → TE) : TE := fun σ H Q => TabP H P ∧ ∀ H1, Kp H H1 → TT (fun E H' Q' => t E σ H' Q') H1 Q
theorem pe_lamG {X : Cx} {TT : (XK → Hp → VK → Prop) → Hp → VK → Prop} {x a : Str} {g c P : Addr} {k : Nat} {pg : Arguments} {bg : List Stmt} {sg : Scope} {dV kV doc pm cdv ct oc : Value} {an od : Option Addr} {osl : Array (Option Value)} {Ng : List Str}
    {params : Arguments} {body : Expr} {scope : Scope} {t : XK → TE} {p lpos pos : Pos} (hg : Gl X x) (hm : X.mg x = some (.ref g)) (hk : PySem.W.keepIn X.K (.ref g) = true)
    (lk : X.K.lookup g = some ⟨oc, od, .func (PySem.W.fnOf x x pg bg sg dV kV doc pm an cdv ct), osl⟩) (hcg : PySem.W.codeIn X.K cdv x = true) (hb : L2.Binds X.K (PySem.W.fnOf x x pg bg sg dV kV doc pm an cdv ct) [a] []) (Sg : FnScope Ng [a] sg) (hNg : Ng[0]? = some a) (hva : Vis sg a)
    (hG : GivesG X (k + 1) Ng x sg g cdv bg a (X.env.qual ++ "<lambda>") TT)
    (TB : TabB X.base X.mg c P) (hcode : X.env.code = .ref c) (hn : NM lpos.line lpos.col = X.env.qual ++ "<lambda>") (hr : RoomG (k + 2) X.A) (L : LamS X.env.scope scope) (hdef : defaultsOf params X.env = ([], []))
    (hbind : ∀ (q : Str) (cl : List (Str × Addr)) (pm cv ctv : Value), bindArgs (PySem.W.kla_fn "<lambda>" q params body scope cl pm cv ctv) ⟨[], []⟩ = pure [])
    (hbody : ∀ (A : Around) (outer : List Env) (s : Shared) (H : Hp) (E : XK) (f c' : Addr), RoomG k (A.deeper (lamEnv X scope s.heap.objs.size f c')) → PE (lamCx X A outer s H E scope f c') body (t E))
    (hdb : (x == ("__debug__" : Str)) = false := by decide) (hd : (a == ("__debug__" : Str)) = false := by decide) (hcd : (a == ("__classdict__" : Str)) = false := by decide) :
    PE X (.Call (.Name x p) [.Lambda params body scope lpos] [] pos) (tLamG P TT t) := by
  refine ⟨fun pins s σ H Q I ⟨hT, h⟩ => ?_⟩
  refine wpAny_Call_Name_kw (ld_glob I hg hm ?_ hdb)
  refine PySem.W.callWith_K (h₀ := X.base) I.ok.mod.kin hk ?_ (by rfl) (by rfl)
  refine Calls.spliced_cons (lam_make I TB hcode hn hT hdef (L.has I.ok) fun f c' pm' ctv H1 s' I1 k1 hf hfn hfr hco => ?_)
  refine Calls.spliced_nil ⟨I1.kIn, ?_⟩
  have rc : codeAny (model X.prog X.w) X.A (.call (.ref g) ⟨[.ref f], []⟩) (CR CX0 X.stack X.prog X.w H1 s' Q E0) s' := by
    refine run_ofS (N := Ng) (ps := [a]) (us := [.ref f]) (vs := [.ref f]) lk hcg Sg hr.rm I1.env0 (hb s' [.ref f] I1.kIn rfl) (.cons rfl .nil) rfl fun _ => ?_
    have hr' := hr.deeper (envOfC x sg s'.heap.objs.size g cdv)
    obtain ⟨t', ht', hq'⟩ := hG f c' s' H1 Q (fun E H' Q' => t E σ H' Q') hr' (fun W pn xe E p1 p2 tk hW => pe_actG (i := 0) I1 L hf hfn hfr (hbind _ _ _ _ _) tk hW hr' (fun A outer s H hr2 => hbody A outer s H E f c' hr2) hNg hva hd hcd) hco (h H1 k1)
    exact ⟨t', ht'.nox, hq'⟩
  refine wpAny_call (codeAny_mono rc fun r s2 hq => ?_)
  · match r, hq with
    | .error e, hq => exact (show False from hq).elim
    | .ok (.ret u), hq => exact I1.after hq
end G
namespace G
open PySem PySem.Spec PyProof.Rows L2 LamX
/-- pe_lamG, the def told by its facts -/
theorem pe_lamF {X : Cx} {TT : (XK → Hp → VK → Prop) → Hp → VK → Prop} {x a : Str} {g c P : Addr} {k : Nat} {st : Stmt} {fd : FuncData} {Ng : List Str} {params : Arguments} {body : Expr} {scope : Scope} {t : XK → TE} {p lpos pos : Pos}
    (F : L2.FunD X.K x x (defArgs st) (defBody st) (defScope st) [] [] g fd) (hg : Gl X x) (hm : X.mg x = some (.ref g)) (hb : L2.Binds X.K fd [a] []) (Sg : FnScope Ng [a] (defScope st)) (hNg : Ng[0]? = some a) (hva : Vis (defScope st) a)
    (hG : ∀ cdv, GivesG X (k + 1) Ng x (defScope st) g cdv (defBody st) a (X.env.qual ++ "<lambda>") TT)
    (TB : TabB X.base X.mg c P) (hcode : X.env.code = .ref c) (hn : NM lpos.line lpos.col = X.env.qual ++ "<lambda>") (hr : RoomG (k + 2) X.A) (L : LamS X.env.scope scope) (hdef : defaultsOf params X.env = ([], []))
    (hbind : ∀ (q : Str) (cl : List (Str × Addr)) (pm cv ctv : Value), bindArgs (PySem.W.kla_fn "<lambda>" q params body scope cl pm cv ctv) ⟨[], []⟩ = pure [])
    (hbody : ∀ (A : Around) (outer : List Env) (s : Shared) (H : Hp) (E : XK) (f c' : Addr), RoomG k (A.deeper (lamEnv X scope s.heap.objs.size f c')) → PE (lamCx X A outer s H E scope f c') body (t E))
    (hdb : (x == ("__debug__" : Str)) = false := by decide) (hd : (a == ("__debug__" : Str)) = false := by decide) (hcd : (a == ("__classdict__" : Str)) = false := by decide) :
    PE X (.Call (.Name x p) [.Lambda params body scope lpos] [] pos) (tLamG P TT t) := by
  have kp := F.kp
  obtain ⟨oc, od, dV, kV, doc, pm, an, cdv, ct, osl, rfl, lk, hcd2, _, _⟩ := F.ex
  exact pe_lamG hg hm kp lk hcd2 hb Sg hNg hva (hG cdv) TB hcode hn hr L hdef hbind hbody hdb hd hcd
end G
namespace G
open PySem PySem.Spec PyProof.Rows L2
/-! ### try with several clauses, named or not; exceptions of own classes without an own __init__ -/
/-- a clause: its class, the slot of its name, its suite -/
abbrev Cl := Value × Option Nat × (Addr → Value → Option Addr → TS)
def clRun (i : Option Nat) (ts : Addr → Value → Option Addr → TS) (a : Addr) (cls : Value) (d : Option Addr) (D : Ends) (σ : L2.St) (H : Hp) : Prop := match i with
  | none => ts a cls d D σ H
  | some i => ts a cls d { nx := fun σ' H' => D.nx (σ'.set i none) H', rt := D.rt, bk := fun σ' H' => D.bk (σ'.set i none) H', ct := fun σ' H' => D.ct (σ'.set i none) H' } (σ.set i (some (.ref a))) H
/-- what the clauses wish of an exception of the body -/
def wCls (K : PySem.W.Frag) (n : Nat) (Wout : WX) (D : Ends) : List Cl → WX
  | [] => Wout
  | (c, i, ts) :: r => fun cls d σ H => ∃ b, PySem.W.exmOne K cls c = some b ∧ (b = true → ∀ a, H a = none → σ.length = n → clRun i ts a cls d D σ H) ∧ (b = false → wCls K n Wout D r cls d σ H)
theorem exm_none {K : PySem.W.Frag} {cls : Value} : PySem.W.exmOne K cls .none = none := rfl
inductive ClsOk (X : Cx) : List ExceptHandler → List Cl → Prop
  | nil : ClsOk X [] []
  /-- the clauses from here on are not asked -/
  | stop {hds : List ExceptHandler} : ClsOk X hds [(.none, none, fun _ _ _ _ _ _ => False)]
  | one {x : Str} {c : Value} {ts : Addr → Value → Option Addr → TS} {b₀ : Stmt} {suite : List Stmt} {np pos' : Pos} {hds : List ExceptHandler} {l : List Cl} (hc : Names X x c)
      (hsu : ∀ (a : Addr) (oe : Obj) (cls : Value) (d : Option Addr) (pn : List (Addr × Obj)), Zc cls d oe → (∃ vs, oe.data = .fields vs) → PSs (X.suite a ((a, oe) :: pn)) (b₀ :: suite) (ts a cls d)) (r : ClsOk X hds l) :
      ClsOk X (.ExceptHandler (some (.Name x np)) none (b₀ :: suite) pos' :: hds) ((c, none, ts) :: l)
  | as {x n : Str} {c : Value} {i : Nat} {ts : Addr → Value → Option Addr → TS} {b₀ : Stmt} {suite : List Stmt} {np pos' : Pos} {hds : List ExceptHandler} {l : List Cl} (hc : Names X x c) (hi : X.N[i]? = some n) (hln : X.env.kindOf n = some .local)
      (hsu : ∀ (a : Addr) (oe : Obj) (cls : Value) (d : Option Addr) (pn : List (Addr × Obj)), Zc cls d oe → (∃ vs, oe.data = .fields vs) → PSs (X.suite a ((a, oe) :: pn)) (b₀ :: suite) (ts a cls d)) (r : ClsOk X hds l) :
      ClsOk X (.ExceptHandler (some (.Name x np)) (some n) (b₀ :: suite) pos' :: hds) ((c, some i, ts) :: l)
section
variable {X : Cx} {body : List Stmt} {h₀ : ExceptHandler} {hds : List ExceptHandler} {l : List Cl} {pos : Pos} {tb : WX → TS} {Wout : WX}
theorem ps_try_g (hs : X.stack = X.env :: X.outer) (hf : X.env.frame = some X.env.locals) (hN : X.N.Nodup) (tk : Takes X Wout)
    (hb : ∀ (W : WX) (pn : List (Addr × Obj)) (xe : Value → Shared → Prop), Takes (X.tr pn xe) W → PassesOwn (model X.prog X.w) X.A X.env xe → PSs (X.tr pn xe) body (tb W))
    (hh : ClsOk X (h₀ :: hds) l) : PS X (.Try body (h₀ :: hds) [] [] pos) (fun D σ H => tb (wCls X.K X.N.length Wout D l) D σ H) := by
  refine ⟨fun pins s σ H D I h => ?_⟩
  have ok := I.ok
  have hfr : X.A.frames = some (X.env :: X.outer) := by rw [ok.frames, hs]
  refine wpAny_Try_except (wpAny_mono ((hb (wCls X.K X.N.length Wout D l) (X.pn ++ pins) (fun e s₁ => wpAny (model X.prog X.w) X.A (noteFrame e X.env) (fun _ s₂ => wpAny (model X.prog X.w) X.A (setFlight e none) (fun _ s₃ =>
    wpAny (model X.prog X.w) X.A (handleBy e X.env (h₀ :: hds)) (SP X pins D) X.xe s₃) X.xe s₂) X.xe s₁) (fun u s' xx => ?_) PassesOwn.looking).run [] s σ H D (I.toTry _) h) (fun f s1 hsp => ?_) (fun e s1 he => he))
  · obtain ⟨a, B, sI, pins', σ', H', cls, d, rfl, J', nb, up, sky, na, os, ag, w⟩ := xx
    have J : Inv X pins σ' H' sI := J'.ofTry ok
    rw [show (X.tr (X.pn ++ pins) _).stack = X.stack from rfl, hs] at sky
    show wpAny (model X.prog X.w) X.A (noteFrame (.ref a) X.env) _ _ _
    refine Sky.land Zc.steady hfr hf sky fun h3 fl3 up3 => ?_
    have J3 : Inv X pins σ' H' { s' with heap := h3 } := J.landed nb fl3.1 (up.trans up3) os ag
    obtain ⟨oe3, vs3, he3, hz3, hd3⟩ := fl3.there
    have nfr : a ∉ frs (X.env :: X.outer) := fun hm => by
      obtain ⟨_, o', e', hnf⟩ := fl3.2.2.1.mem hm
      rw [he3] at e'
      cases e'
      exact hnf _ hd3
    have nL : a ≠ X.env.locals := fun z => nfr (List.mem_filterMap.mpr ⟨X.env, List.mem_cons_self, by rw [hf, z]⟩)
    have nF : a ∉ X.fs := fun hm => by
      obtain ⟨e, he, q⟩ := List.mem_filterMap.mp hm
      exact nfr (List.mem_filterMap.mpr ⟨e, List.mem_cons_of_mem _ he, q⟩)
    have S3 := J3.suite he3 hd3 na nL nF
    have LT : PySem.W.Looks (model X.prog X.w) h3 (typeOf (.ref a)) cls := fun A Q E s k q => wpAny_typeOf_ref (k _ _ he3) (by rw [hz3.1]; exact q)
    -- the class that a clause names
    have test : ∀ {x : Str} {np : Pos} {c : Value} {Q : Value → Shared → Prop} {E : Value → Shared → Prop}, Names X x c → Q c { s' with heap := h3 } → wpAny (model X.prog X.w) (X.A.mark (some (.ref a))) (eval (.Name x np) X.env) Q E { s' with heap := h3 } := fun {x np c Q E} hc q => by
      obtain ⟨hg, hdbg, hm | ⟨hm, hv, hnn⟩⟩ := hc
      · exact ld_glob (X := X.suite a ((a, oe3) :: (X.pn ++ pins))) S3 hg hm q hdbg
      · exact ld_blt (X := X.suite a ((a, oe3) :: (X.pn ++ pins))) S3 hg hm hv q hnn hdbg
    -- the end of a suite
    have ends : ∀ {q : Addr × Obj} {f : Flow} {s6 : Shared}, SP (X.suite a (q :: (X.pn ++ pins))) [] D f s6 → SP X pins D f s6 := fun {q f s6} z => by
      match f, z with
      | .next, ⟨σ6, H6, S6, q6⟩ => exact ⟨_, _, S6.unsuite ok, q6⟩
      | .brk, ⟨σ6, H6, S6, q6⟩ => exact ⟨_, _, S6.unsuite ok, q6⟩
      | .cont, ⟨σ6, H6, S6, q6⟩ => exact ⟨_, _, S6.unsuite ok, q6⟩
      | .ret u, ⟨v6, σ6, H6, S6, r6, q6⟩ => exact ⟨_, _, _, S6.unsuite ok, r6, q6⟩
    have go : ∀ {hds' : List ExceptHandler} {l' : List Cl}, ClsOk X hds' l' → wCls X.K X.N.length Wout D l' cls d σ' H' → wpAny (model X.prog X.w) X.A (handleBy (.ref a) X.env hds') (SP X pins D) X.xe { s' with heap := h3 } := by
      intro hds' l' hk
      induction hk with
      | nil =>
        intro w
        refine wpAny_handleBy_nil ?_
        obtain ⟨k1, k2, k3, oe, vs, T, oT, ts', he, hz, hd, h1, hr⟩ := id fl3
        unfold PySem.passOn
        refine wpAny_bind (wpAny_field he hd h1 ?_)
        rw [if_neg (show ¬ ((Value.ref T == Value.none) = true) from by simp)]
        have fin : wpAny (model X.prog X.w) X.A (setFlight (.ref a) X.env.frame) (fun _ s4 => wpAny (model X.prog X.w) X.A (throw (.ref a) : Sem Flow) (SP X pins D) X.xe s4) X.xe { s' with heap := h3 } := by
          rw [hf]
          exact HandSPX.setFlight_upZ fl3 fun h4 hh4 up4 => wpAny_throw (tk _ _ ⟨a, B, sI, pins, σ', H', cls, d, rfl, J, nb, (up.trans up3).trans up4, .inr (.inr (by rw [hs]; exact hh4)), na, os, ag, w⟩)
        first
          | exact wpAny_bind (wpAny_pure (wpAny_bind fin))
          | exact wpAny_bind fin
      | stop =>
        rintro ⟨b, hb1, _⟩
        rw [exm_none] at hb1
        cases hb1
      | one hc hsu r ih =>
        rintro ⟨b, hb1, hyes, hno⟩
        refine wpAny_handleBy_cons (codeAny_handlers_test ?_) (by intro q; cases q)
        refine test hc ((PySem.W.exm_one (M := model X.prog X.w) J3.kIn LT hb1).here ?_)
        cases b with
        | false => exact ih (hno rfl)
        | true =>
          refine codeAny_handlers_suite (HandSPX.lands_againZ fl3 fun h4 fl4 up4 => ?_)
          have J4 : Inv X pins σ' H' { s' with heap := h4 } := J.landed nb fl4.1 ((up.trans up3).trans up4) os ag
          obtain ⟨oe4, vs4, he4, hz4, hd4⟩ := fl4.there
          exact wpAny_mono ((hsu a oe4 cls d (X.pn ++ pins) hz4 ⟨_, hd4⟩).run [] _ _ H' _ (J4.suite he4 hd4 na nL nF) (hyes rfl a na J4.len)) (fun f s6 z => ends z) (fun _ _ z => False.elim z)
      | @as x n c i ts b₀ suite np pos' hds2 l2 hc hi hln hsu r ih =>
        rintro ⟨b, hb1, hyes, hno⟩
        refine wpAny_handleBy_cons (codeAny_handlers_test ?_) (by intro q; cases q)
        refine test hc ((PySem.W.exm_one (M := model X.prog X.w) J3.kIn LT hb1).here ?_)
        cases b with
        | false => exact ih (hno rfl)
        | true =>
          refine codeAny_handlers_suite_as (HandSPX.lands_againZ fl3 fun h4 fl4 up4 => ?_)
          have J4 : Inv X pins σ' H' { s' with heap := h4 } := J.landed nb fl4.1 ((up.trans up3).trans up4) os ag
          obtain ⟨oe4, vs4, he4, hz4, hd4⟩ := fl4.there
          refine store_ok (X := X.suite a ((a, oe4) :: (X.pn ++ pins))) (v := .ref a) (J4.suite he4 hd4 na nL nF) hN hi (.inl hln) rfl (fun s5 S5 => ?_) (.inr hln)
          refine wpAny_mono ((hsu a oe4 cls d (X.pn ++ pins) hz4 ⟨_, hd4⟩).run [] s5 _ H' _ S5 (hyes rfl a na J4.len)) (fun f s6 hsp => ?_) (fun _ _ z => False.elim z)
          have end_ : ∀ {σ6 : L2.St} {H6 : Hp} {Q : Shared → Prop}, Inv (X.suite a ((a, oe4) :: (X.pn ++ pins))) [] σ6 H6 s6 → (∀ s7, Inv X pins (σ6.set i none) H6 s7 → Q s7) →
              wpAny (model X.prog X.w) X.A (do bindName X.env n .none; unbindBehindTheSuite X.env n pos') (fun _ s7 => Q s7) X.xe s6 := fun {σ6 H6 Q} S6 hq => gone_ok (S6.unsuite ok) hN hi hln hq
          match f, hsp with
          | .next, ⟨σ6, H6, S6, q6⟩ => exact end_ S6 fun s7 J7 => ⟨_, _, J7, q6⟩
          | .brk, ⟨σ6, H6, S6, q6⟩ => exact end_ S6 fun s7 J7 => ⟨_, _, J7, q6⟩
          | .cont, ⟨σ6, H6, S6, q6⟩ => exact end_ S6 fun s7 J7 => ⟨_, _, J7, q6⟩
          | .ret u, ⟨v6, σ6, H6, S6, r6, q6⟩ => exact end_ S6 fun s7 J7 => ⟨_, _, _, J7, r6, q6⟩
    exact go hh w
  · match f, hsp with
    | .next, ⟨σ', H', J', q⟩ => exact wpAny_execs_nil ⟨σ', H', J'.ofTry ok, q⟩
    | .brk, ⟨σ', H', J', q⟩ => exact ⟨σ', H', J'.ofTry ok, q⟩
    | .cont, ⟨σ', H', J', q⟩ => exact ⟨σ', H', J'.ofTry ok, q⟩
    | .ret u, ⟨v, σ', H', J', r, q⟩ => exact ⟨v, σ', H', J'.ofTry ok, r, q⟩
end
theorem takes_no {X : Cx} : Takes X (fun _ _ _ _ => False) := fun _ _ ⟨_, _, _, _, _, _, _, _, _, _, _, _, _, _, _, _, w⟩ => w.elim
/-- C(), an own exception class without an own __init__ -/
theorem pmk_own0 {X : Cx} {C : Addr} {bmB : List Value} {B newId initId : String} {x : Str} {p pos : Pos} (F : ExcBaseFacts B newId initId bmB) (q : PySem.W.excIn X.K C bmB newId = true) (gC : X.mg x = some (.ref C)) (kC : PySem.W.keepIn X.K (.ref C) = true) (r : Raises X (.ref C)) (hg : Gl X x)
    (hdb : (x == ("__debug__" : Str)) = false := by decide) : PMk X (.Call (.Name x p) [] [] pos) (fun _ H Q => Q (.ref C) none H) := by
  intro pins s σ H Q I h
  refine wpAny_Call_Name_kw (ld_glob I hg gC (PySem.W.callWith_K0 I.kIn kC ?_) hdb)
  obtain ⟨bm, N, nm, qn, bs, hdct, sn, sub, ab, col, dd, k0, k1, k2, k3, k5, mN, hC, hN, hni, T⟩ := exc_obj I.kIn q
  exact wpAny_call_exc_subT F T hC hN hni (fun h' e hm => mk_of I hm r h (I.hok.gone hm.new)) (Nat.zero_le _)
/-- the raising of what e makes, out of a def: E is the def's wish -/
theorem tk_E {X : Cx} {E : XK} (hs : X.stack = X.env :: X.outer := by rfl) (hf : X.env.frame = some X.env.locals := by rfl) (hex : X.ex = [] := by rfl) {E₁ : Value → Shared → Prop}
    (hx : X.xe = fun e s' => wpAny (model X.prog X.w) X.A (leaving X.env e) (fun _ s'' => L2.CX X.prog X.w X.outer X.H_0 X.s_0 E e s'') E₁ s' := by rfl) : Takes X (fun cls d _ H => E cls d H) := takes_of hs hf hex hx
theorem pass_E {X : Cx} {E : XK} (tk : Takes X (fun cls d _ H => E cls d H)) : Passes (L2.CX X.prog X.w) X E := passes_call tk fun _ _ _ _ h => h
/-- the call of what was handed in, in the body of a try -/
def tAct (f c' : Addr) (q : Str) (tl : XK → Hp → VK → Prop) (W : WX) : TE := fun σ H Q => ∃ E : XK, (∀ cls d σ' H', E cls d H' → W cls d σ' H') ∧ σ[0]? = some (some (.ref f)) ∧ H c' = some (LamX.CodeO c' q) ∧ tl E H Q
theorem pe_actW {X : Cx} {e : Expr} {f c' : Addr} {q : Str} {tl : XK → Hp → VK → Prop} {W : WX} (h : ∀ E : XK, (∀ cls d σ' H', E cls d H' → W cls d σ' H') → PE X e (fun σZ HZ Q => σZ[0]? = some (some (.ref f)) ∧ HZ c' = some (LamX.CodeO c' q) ∧ tl E HZ Q)) :
    PE X e (tAct f c' q tl W) := ⟨fun pins s σ H Q I ⟨E, hW, h1, h2, h3⟩ => (h E hW).run pins s σ H Q I ⟨h1, h2, h3⟩⟩
end G
namespace G
open PySem PySem.Spec PySem.Calls PyProof.Rows L2
/-! ### facts: classes of exceptions; the code objects of the defs that make lambdas, and their tables -/
section
variable {K : PySem.W.Frag} {x y : Str} {b : Bool}
abbrev bmVE : List Value := [.type "ValueError", .type "Exception", .type "BaseException", .type "object"]
/-- an own class over ValueError, no own __init__ up to there -/
def excB (x : Str) : ExB := fun K => PySem.W.excIn K (He.ga K x) bmVE "ValueError.__new__" && (PySem.W.keepIn K (.ref (He.ga K x)) && (decide (PySem.W.subIn K (.ref (He.ga K x)) (.type "BaseException") = some true) && decide (PySem.W.typeIn K (.ref (He.ga K x)) = some (.type "type"))))
structure ExcC (K : PySem.W.Frag) (C : Addr) : Prop where
  exc : PySem.W.excIn K C bmVE "ValueError.__new__" = true
  kp : PySem.W.keepIn K (.ref C) = true
  sub : PySem.W.subIn K (.ref C) (.type "BaseException") = some true
  ty : PySem.W.typeIn K (.ref C) = some (.type "type")
theorem excB_ok (h : excB x K = true) : ExcC K (He.ga K x) := by
  obtain ⟨h1, h⟩ := He.ba h
  obtain ⟨h2, h⟩ := He.ba h
  obtain ⟨h3, h4⟩ := He.ba h
  exact ⟨h1, h2, of_decide_eq_true h3, of_decide_eq_true h4⟩
/-- raise C() -/
theorem ps_raise0 {X : Cx} {C : Addr} {W : WX} {x : Str} {p pos pos' : Pos} (hc : X.calm = true) (tk : Takes X W) (T : ExcC X.K C) (gC : X.mg x = some (.ref C)) (hg : Gl X x) (hdb : (x == ("__debug__" : Str)) = false := by decide) :
    PS X (.Raise (some (.Call (.Name x p) [] [] pos)) none pos') (fun _ σ H => W (.ref C) none σ H) := ps_raise hc tk (pmk_own0 F.excBase_ValueError T.exc gC T.kp (raises_own T.sub T.ty) hg hdb)
/-- except y: an exception of the class x -/
def exmB (x y : Str) (b : Bool) : ExB := fun K => decide (PySem.W.exmOne K (.ref (He.ga K x)) (.ref (He.ga K y)) = some b)
theorem exmB_ok (h : exmB x y b K = true) : PySem.W.exmOne K (.ref (He.ga K x)) (.ref (He.ga K y)) = some b := of_decide_eq_true h
def cA (K : PySem.W.Frag) (f : Addr) : Addr := match K.lookup f with
  | some ⟨_, _, .func fd, _⟩ => (match fd.code with
    | .ref c => c
    | _ => 0)
  | _ => 0
def pA (K : PySem.W.Frag) (f : Addr) : Addr := match K.lookup (cA K f) with
  | some ⟨_, _, .fields vs, _⟩ => (match (vs[11]? : Option Value) with
    | some (.ref P) => P
    | _ => 0)
  | _ => 0
def codeB (K : PySem.W.Frag) (f : Addr) : Bool := match K.lookup f with
  | some ⟨_, _, .func fd, _⟩ => (match fd.code with
    | .ref _ => true
    | _ => false)
  | _ => false
def tabB (x : Str) : ExB := fun K => decide (PySem.W.tabIn K x = some (cA K (He.ga K x), pA K (He.ga K x))) && (codeB K (He.ga K x) && (K.lookup (pA K (He.ga K x))).isNone)
structure TabF (K : PySem.W.Frag) (x : Str) (f : Addr) : Prop where
  tab : PySem.W.tabIn K x = some (cA K f, pA K f)
  code : codeB K f = true
  out : K.lookup (pA K f) = none
theorem tabB_ok (h : tabB x K = true) : TabF K x (He.ga K x) := by
  obtain ⟨h1, h⟩ := He.ba h
  obtain ⟨h2, h3⟩ := He.ba h
  exact ⟨of_decide_eq_true h1, h2, by simpa using h3⟩
theorem code_is {f : Addr} {oc : Value} {od : Option Addr} {fd : FuncData} {osl : Array (Option Value)} (h : codeB K f = true) (lk : K.lookup f = some ⟨oc, od, .func fd, osl⟩) : fd.code = .ref (cA K f) := by
  unfold codeB at h
  unfold cA
  rw [lk] at h ⊢
  simp only at h ⊢
  split at h
  · rename_i c e
    rw [e]
  · cases h
end
section
variable {P : Program} {w : World} {K : PySem.W.Frag} {mg : Str → Option Value} {base : Heap} {x qual : Str} {st : Stmt} {dvs : List V} {kws : List (Str × V)} {f : Addr} {fd : FuncData}
/-- ok_of, for a def that makes lambdas: its code object is told -/
theorem ok_ofT {N ps : List Str} {k : Nat} {sp : Sp} (F : L2.FunD K x qual (defArgs st) (defBody st) (defScope st) dvs kws f fd) (S : FnScope N ps (defScope st)) (hc : codeB K f = true) (len : ∀ vs H Q E, sp vs H Q E → vs.length = ps.length)
    (hbody : ∀ (cdv : Value) (A : Around) (outer : List Env) (s : Shared) (H : Hp) (vs : List V) (Q : VK) (E : XK), cdv = .ref (cA K f) → RoomG k (A.deeper (envOfC qual (defScope st) s.heap.objs.size f cdv)) → sp vs H Q E →
      ∃ t, PSs (cxOf CX0 P w K mg base N qual (defScope st) f cdv A outer s H E).nox (defBody st) t ∧ t { nx := fun _ H' => Q .non H', rt := Q } (start N vs) H) : FnG P w K mg base CX0 (k + 1) f fd ps sp := by
  obtain ⟨oc, od, dV, kV, doc, pm, an, cdv, ct, osl, rfl, lk, hcd, _, _⟩ := F.ex
  have e : cdv = .ref (cA K f) := code_is hc lk
  exact ⟨fun h => len _ _ _ _ h, fun {A outer s H args us vs Q E} r e0 hb rv h => LamX.run_ofS lk hcd S r.rm e0 hb rv (len _ _ _ _ h) fun _ => let ⟨t, ht, q⟩ := hbody cdv A outer s H vs Q E e (r.deeper _) h; ⟨t, ht.nox, q⟩⟩
/-- okX_of for a def that may raise: E, what it wishes of what it lets out -/
theorem ok_ofX {N ps : List Str} {k : Nat} {sp : Sp} (F : L2.FunD K x qual (defArgs st) (defBody st) (defScope st) dvs kws f fd) (S : FnScope N ps (defScope st)) (len : ∀ vs H Q E, sp vs H Q E → vs.length = ps.length)
    (hbody : ∀ (cdv : Value) (A : Around) (outer : List Env) (s : Shared) (H : Hp) (vs : List V) (Q : VK) (E : XK), RoomG k (A.deeper (envOfC qual (defScope st) s.heap.objs.size f cdv)) → Takes (cxOf (L2.CX P w) P w K mg base N qual (defScope st) f cdv A outer s H E) (fun cls d _ H => E cls d H) → sp vs H Q E →
      ∃ t, PSs (cxOf (L2.CX P w) P w K mg base N qual (defScope st) f cdv A outer s H E) (defBody st) t ∧ t { nx := fun _ H' => Q .non H', rt := Q } (start N vs) H) : FnG P w K mg base (L2.CX P w) (k + 1) f fd ps sp :=
  okX_of F S len fun cdv A outer s H vs Q E hr hsp => hbody cdv A outer s H vs Q E hr (takes_of rfl rfl rfl rfl) hsp
end
/-! ### the end, with tables -/
theorem law_callTG {P : Program} {w : World} {K : PySem.W.Frag} {mg mb : Str → Option Value} {CX : CXT} {k : Nat} {u a : Addr} {fd : FuncData} {x : Str} {sp : Sp} {s : Shared} {vs : List Value} {ns : List Int} {cs : List (Addr × Addr)}
    (KX : K.In s.heap) (gl : s.heap.Ns mainGlobals mg) (bl : s.heap.Ns builtinsNs mb) (bb : ∀ x : Str, x ≠ "__name__" → mb x = bootBuiltins x) (lim : s.heap.NoLimit) (hg : s.gens = #[]) (ha : s.heap.get? a = some { cls := .type "list", data := .seq vs.toArray })
    (hT : ∀ p ∈ cs, PySem.W.CodeHd s.heap p.1 p.2 ∧ s.heap.get? p.2 = some (PySem.W.tabObj #[])) (nT : ∀ p ∈ cs, K.lookup p.2 = none)
    (hbm : ∃ (bm : Addr) (ob : Obj), mg "__builtins__" = some (.ref bm) ∧ bm ≠ builtinsNs ∧ s.heap.get? bm = some ob ∧ ob.cls = .type "module" ∧ ob.dict = some builtinsNs ∧ ob.data = .plain)
    (hi : IntsAre vs ns) (hl : ns.length ≤ sizeLine) (hr : Room k callerA) (F : ∀ base : Heap, K.In base → base.Ns mainGlobals mg → (∀ p ∈ cs, LamX.TabB base mg p.1 p.2) → FnG P w K mg base CX k u fd [x] sp) (hb : ∀ (s : Shared) (v : Value), BindsTo s fd ⟨[v], []⟩ [(x, v)])
    (hsp : ∀ H : Hp, (∀ p ∈ cs, H p.2 = some (.tbl #[])) → SqL K H a (ns.map V.int) → sp [.ref a] H (fun v _ => v = .bl true) fun _ _ _ => False) (hCX : ∀ H e s', CX [] H s (fun _ _ _ => False) e s' → False) :
    codeAny (model P w) callerA (.call (.ref u) ⟨[.ref a], []⟩) (fun r s' => r = .ok (.ret (.bool true)) ∧ OldK s.heap s'.heap ∧ s'.os = s.os ∧ AllBare s'.gens) s := by
  have rv := vals_ints hi
  have tabA : ∀ b, (∃ p ∈ cs, p.2 = b) → s.heap.get? b = some (PySem.W.tabObj #[]) := fun b ⟨p, hp, e⟩ => e ▸ (hT p hp).2
  have aT : ∀ p ∈ cs, p.2 ≠ a := fun p hp e => by
    have q := (hT p hp).2
    rw [e, ha] at q
    cases (show Data.seq vs.toArray _ = Data.fields #[] from congrArg Obj.data (Option.some.inj q))
  obtain ⟨H, key⟩ : ∃ H : Hp, ∀ b, (H b = none ∧ (b = a → K.lookup a ≠ none) ∧ ¬ ∃ p ∈ cs, p.2 = b) ∨ (b = a ∧ K.lookup a = none ∧ H b = some (.frz { cls := .type "list", data := .seq vs.toArray } (.lst (ns.map V.int)))) ∨ ((∃ p ∈ cs, p.2 = b) ∧ H b = some (.tbl #[])) := by
    classical
    refine ⟨fun b => if b = a ∧ K.lookup a = none then some (.frz { cls := .type "list", data := .seq vs.toArray } (.lst (ns.map V.int))) else if ∃ p ∈ cs, p.2 = b then some (.tbl #[]) else none, fun b => ?_⟩
    by_cases c : b = a ∧ K.lookup a = none
    · exact .inr (.inl ⟨c.1, c.2, if_pos c⟩)
    · by_cases d : ∃ p ∈ cs, p.2 = b
      · exact .inr (.inr ⟨d, (if_neg c).trans (if_pos d)⟩)
      · exact .inl ⟨(if_neg c).trans (if_neg d), fun e z => c ⟨e, z⟩, d⟩
  have hH : ∀ p ∈ cs, H p.2 = some (.tbl #[]) := fun p hp => by
    rcases key p.2 with h | ⟨e, _⟩ | h
    · exact absurd ⟨p, hp, rfl⟩ h.2.2
    · exact absurd e (aT p hp)
    · exact h.2
  have sq : SqL K H a (ns.map V.int) := by
    rcases key a with h | ⟨_, _, h⟩ | ⟨⟨p, hp, e⟩, _⟩
    · cases q : K.lookup a with
      | none => exact absurd q (h.2.1 rfl)
      | some o =>
        have e := KX a o q
        rw [ha] at e
        cases e
        exact .inr ⟨_, vs.toArray, _, q, rfl, rfl, rfl, by rw [List.size_toArray, hi.length]; exact hl, by simpa using rv⟩
    · exact .inl (.inr ⟨_, h⟩)
    · exact absurd e (aT p hp)
  -- what is no list and no empty table is not tracked
  have nH : ∀ {b : Addr} {o : Obj}, s.heap.get? b = some o → o ≠ { cls := .type "list", data := .seq vs.toArray } → o ≠ PySem.W.tabObj #[] → H b = none := fun {b o} e n1 n2 => by
    rcases key b with h | ⟨rfl, _, _⟩ | ⟨h, _⟩
    · exact h.1
    · rw [ha] at e
      exact absurd (Option.some.inj e).symm n1
    · rw [tabA b h] at e
      exact absurd (Option.some.inj e).symm n2
  have ns' : ∀ {b : Addr} {m : Str → Option Value}, s.heap.Ns b m → (hidT s.heap H).Ns b m := by
    rintro b m ⟨o, es, ep, e, d, r⟩
    exact ⟨o, es, ep, hidT_get e (nH e (fun z => by rw [z] at d; cases d) (fun z => by rw [z] at d; cases d)), d, r⟩
  have inB : K.In (hidT s.heap H) := fun b o e => hidT_get (KX b o e) (by
    rcases key b with h | ⟨rfl, n, _⟩ | ⟨⟨p, hp, q⟩, _⟩
    · exact h.1
    · rw [n] at e
      cases e
    · rw [← q, nT p hp] at e
      cases e)
  have hok : HOk P w H s.heap := fun b z e => by
    rcases key b with h | ⟨rfl, _, h⟩ | ⟨h, g⟩
    · rw [h.1] at e
      cases e
    · rw [h] at e
      cases e
      exact ⟨ha, by rw [List.length_map]; exact hl, vs, _, rv, ha⟩
    · rw [g] at e
      cases e
      exact tabA b h
  have md : Mod K mg (hidT s.heap H) := ⟨inB, ns' gl, ⟨mb, ns' bl, bb⟩, lim.elim fun m h => ⟨m, ns' h.1, h.2⟩⟩
  have env : Env0 P w K mg (hidT s.heap H) callerA [] s H := ⟨rfl, md, fun _ _ e => of_hidT e, Nat.le_of_eq (hidT_size _ _), trivial, (fun _ z => nomatch z), hok, .of_eq hg⟩
  have tb : ∀ p ∈ cs, LamX.TabB (hidT s.heap H) mg p.1 p.2 := fun p hp => by
    obtain ⟨c1, c2⟩ := hT p hp
    refine ⟨?_, ?_, fun z => ?_⟩
    · obtain ⟨o, us, file, tf, flags, tg, inF, text, tt, e1, r1, r⟩ := c1
      refine ⟨o, us, file, tf, flags, tg, inF, text, tt, hidT_get e1 (nH e1 (fun z => ?_) fun z => ?_), r1, r⟩
      · rw [z] at r1
        exact absurd (show Value.type "list" = Value.type "code" from r1) (by decide)
      · rw [z] at r1
        exact absurd (show Value.none = Value.type "code" from r1) (by decide)
    · obtain ⟨bm, ob, b1, b2, b3, b4, b5, b6⟩ := hbm
      refine ⟨bm, ob, b1, b2, fun q => ?_, fun q => ?_, hidT_get b3 (nH b3 (fun z => ?_) fun z => ?_), b4, b5, b6⟩
      · obtain ⟨o, es, ep, e, hd, _⟩ := gl
        rw [q, e] at b3
        cases b3
        rw [hd] at b6
        cases b6
      · rw [q, c2] at b3
        cases b3
        cases b6
      · rw [z] at b6
        cases b6
      · rw [z] at b6
        cases b6
    · obtain ⟨o, es, ep, e, hd, _⟩ := gl
      rw [z, c2] at e
      cases e
      cases hd
  refine codeAny_mono ((F _ inB (ns' gl) tb).run (us := [.ref a]) (vs := [.ref a]) ⟨hr, rfl⟩ env (hb s (.ref a)) (.cons rfl .nil) (hsp H hH sq)) fun r s' h => ?_
  match r, h with
  | .error e, h => exact (hCX H e s' h).elim
  | .ok (.ret z), h =>
    obtain ⟨v, H', os, bare, un, hok', r', q⟩ := h
    cases (show v = .bl true from q)
    cases (show z = Value.bool true from r')
    have kept : ∀ b o, (¬ ∃ p ∈ cs, p.2 = b) → s.heap.get? b = some o → s'.heap.get? b = some o := fun b o nb e => by
      rcases key b with h | ⟨_, _, h⟩ | ⟨h, _⟩
      · exact un.keep b o e h.1 (fun z => nomatch z) (fun z => nomatch z)
      · have e1 := (hok b _ h).1
        have e2 := (hok' b _ (un.frzs b _ _ h)).1
        rw [e] at e1
        cases e1
        exact e2
      · exact absurd h nb
    have grown : ∀ p ∈ cs, ∃ more : Array Value, s'.heap.get? p.2 = some { cls := .none, data := .fields more } := fun p hp => by
      obtain ⟨more, z⟩ := un.tbls p.2 #[] (hH p hp)
      exact ⟨_, hok' p.2 _ z⟩
    refine ⟨rfl, ⟨fun b o e => ?_, fun b o e => ?_⟩, os, bare⟩
    · by_cases hb : ∃ p ∈ cs, p.2 = b
      · obtain ⟨p, hp, rfl⟩ := hb
        obtain ⟨more, hm⟩ := grown p hp
        obtain ⟨c1, c2⟩ := hT p hp
        rw [c2] at e
        cases e
        exact .inr (.inl ⟨(c1.tab c2).isCodeTable, rfl, #[], more, rfl, by rw [Array.empty_append]; exact hm⟩)
      · exact .inl (kept b o hb e)
    · by_cases hb : ∃ p ∈ cs, p.2 = b
      · obtain ⟨p, hp, rfl⟩ := hb
        obtain ⟨more, hm⟩ := grown p hp
        exact ⟨_, hm⟩
      · exact ⟨o, kept b o hb e⟩
/-- the goal that the head leaves, from the law's promise; xs: the defs that make lambdas -/
theorem walk_ofTG {l : PySem.W.OpenLaw} {n k : Nat} {q : Program} {loose : List Str} {XP : (Str → Option Value) → Heap → Prop} {YP : World → Heap → Prop} {d : DefRec} {CX : CXT} {x : Str} {xs : List Str} (hn : l.most = some n) (hz : n ≤ sizeLine) (hd : d.params.defaults = []) (hr : Room k callerA)
    (hrec : xs.all (fun x => ((PyProof.Rows.recsOf q).find? fun e => e.name == x).isSome) = true)
    (F : ∀ (w : World) (mg : Str → Option Value) (u : Addr) (h : Heap), YP w h → h.Ns mainGlobals mg → mg d.name = some (.ref u) → ∃ (K : PySem.W.Frag) (fd : FuncData) (sp : Sp), K.In h ∧ (∀ x ∈ xs, TabF K x (He.ga K x)) ∧ (∀ (s : Shared) (v : Value), BindsTo s fd ⟨[v], []⟩ [(x, v)]) ∧
      (∀ (H : Hp) (a : Addr) (ns : List Int), ns.length ≤ n → (∀ x ∈ xs, TabP H (pA K (He.ga K x))) → SqL K H a (ns.map V.int) → sp [.ref a] H (fun v _ => v = .bl true) fun _ _ _ => False) ∧
      ∀ base : Heap, K.In base → base.Ns mainGlobals mg → (∀ x ∈ xs, LamX.TabB base mg (cA K (He.ga K x)) (pA K (He.ga K x))) → FnG l.prog w K mg base CX k u fd [x] sp)
    (hCX : ∀ (H : Hp) (s : Shared) (e : Value) (s' : Shared), CX [] H s (fun _ _ _ => False) e s' → False) : PySem.W.WalkO q loose XP YP l.row.toRowW d [] (fun f vs => PySem.call f vs) :=
  Att.attach_call hn hd fun w _ s₁ mg _ u _ _ _ _ _ _ ns N Y _ _ _ hmg hobj hints hlen hg => by
    obtain ⟨K, fd, sp, KX, hf, hb, hsp, hF⟩ := F w mg u _ Y N.T.g hmg
    refine law_callTG (cs := xs.map fun x => (cA K (He.ga K x), pA K (He.ga K x))) KX N.T.g N.T.b N.T.builtins N.T.nolimit hg hobj (fun p hp => ?_) (fun p hp => ?_) N.T.bmain hints (Nat.le_trans hlen hz) hr (fun base h1 h2 h3 => hF base h1 h2 fun x hx => h3 _ (List.mem_map.mpr ⟨x, hx, rfl⟩)) hb
      (fun H hO hS => hsp H _ ns hlen (fun x hx => TabP.nil (hO _ (List.mem_map.mpr ⟨x, hx, rfl⟩))) hS) fun H e s' => hCX H _ e s'
    · obtain ⟨x, hx, rfl⟩ := List.mem_map.mp hp
      obtain ⟨d', hd'⟩ := Option.isSome_iff_exists.mp (List.all_eq_true.mp hrec x hx)
      exact PySem.W.tab_of N.T KX hd' (hf x hx).tab
    · obtain ⟨x, hx, rfl⟩ := List.mem_map.mp hp
      exact (hf x hx).out
end G
namespace G
open PySem PySem.Spec PySem.Calls PyProof.Rows L2
/-! ### i op x, x an own object: int's comparison declines, the def of x's class is asked -/
section
variable {prog : Program} {w : World} {A : Around} {E : Value → Shared → Prop} {s : Shared} {K : PySem.W.Frag} {x C : Addr} {ox : Obj} {od : Option Obj}
def DeclC (prog : Program) (w : World) (op : CmpOp) : Prop := ∀ {A : Around} {E : Value → Shared → Prop} {s : Shared} {Q : Option Value → Shared → Prop} {n : Int} {t : Tok} {x : Addr} {ox : Obj}, s.heap.get? x = some ox → ox.data = .plain → Q none s →
  wpAny (model prog w) A (tryCompare (.int n t) (cmpInfo op).2.1 (.ref x)) Q E s
theorem declC_lt : DeclC prog w .Lt := fun {A E s Q n t x ox} hx hd q => wpAny_tryCompare_declines (typeIs_int s n t) F.slot_int_lt (wpAny_call_entry F.slot_int_lt (typeIs_int s n t) F.entry_int_lt (intB_declines hx hd ⟨_, rfl, rfl, q⟩) (F.args_int_lt_2 _ _))
theorem declC_le : DeclC prog w .LtE := fun {A E s Q n t x ox} hx hd q => wpAny_tryCompare_declines (typeIs_int s n t) F.slot_int_le (wpAny_call_entry F.slot_int_le (typeIs_int s n t) F.entry_int_le (intB_declines hx hd ⟨_, rfl, rfl, q⟩) (F.args_int_le_2 _ _))
theorem declC_gt : DeclC prog w .Gt := fun {A E s Q n t x ox} hx hd q => wpAny_tryCompare_declines (typeIs_int s n t) F.slot_int_gt (wpAny_call_entry F.slot_int_gt (typeIs_int s n t) F.entry_int_gt (intB_declines hx hd ⟨_, rfl, rfl, q⟩) (F.args_int_gt_2 _ _))
theorem declC_ge : DeclC prog w .GtE := fun {A E s Q n t x ox} hx hd q => wpAny_tryCompare_declines (typeIs_int s n t) F.slot_int_ge (wpAny_call_entry F.slot_int_ge (typeIs_int s n t) F.entry_int_ge (intB_declines hx hd ⟨_, rfl, rfl, q⟩) (F.args_int_ge_2 _ _))
theorem declC_eq : DeclC prog w .Eq := fun {A E s Q n t x ox} hx hd q => wpAny_tryCompare_declines (typeIs_int s n t) F.slot_int_eq (wpAny_call_entry F.slot_int_eq (typeIs_int s n t) F.entry_int_eq (intB_declines hx hd ⟨_, rfl, rfl, q⟩) (F.args_int_eq_2 _ _))
theorem declC_ne : DeclC prog w .NotEq := fun {A E s Q n t x ox} hx hd q => wpAny_tryCompare_declines (typeIs_int s n t) F.slot_int_ne (wpAny_call_entry F.slot_int_ne (typeIs_int s n t) F.entry_int_ne (intB_declines hx hd ⟨_, rfl, rfl, q⟩) (F.args_int_ne_2 _ _))
theorem rc_ref {op : CmpOp} {n : Int} {t : Tok} {R : Value → Shared → Prop} (hu : A.units < cLine) (KX : K.In s.heap) (I : PySem.W.InstAt s.heap x ox C od) (hd : ox.data = .plain) (dec : DeclC prog w op) (sub : PySem.W.subIn K (.ref C) (.type "int") = some false)
    (one : wpAny (model prog w) A (tryCompare (.ref x) (cmpInfo op).2.2 (.int n t)) (fun r s' => ∃ v, r = some v ∧ R v s') E s) : wpAny (model prog w) A (richCompare op (.int n t) (.ref x)) R E s := by
  unfold richCompare
  simp only [(typeIs_int s n t).oneThing_none]
  refine wpAny_holding (wpAny_bind (wpAny_cRoomFor hu (wpAny_bind (wpAny_typeOf (typeIs_int s n t) (wpAny_bind (I.type.here ?_))))))
  have ne : (Value.type "int" != Value.ref C) = true := by simp
  simp only [ne, if_true]
  refine wpAny_bind ((PySem.W.looks_subIn KX sub).here ?_)
  simp only [Bool.false_eq_true, if_false, Bool.not_false, if_true]
  refine wpAny_bind (dec I.at_ hd ?_)
  exact wpAny_bind (wpAny_mono one (fun r s' z => by obtain ⟨v, rfl, hv⟩ := z; exact wpAny_pure hv) fun _ _ e => e)
end
section
variable {X : Cx} {CX : CXT} {k : Nat} {C g : Addr} {sp : Sp} {E : XK} {fd : FuncData} {ps : List Str}
def rCmpRf (C : Addr) (sp : Sp) (E : XK) : R2 := fun x y H Q => ∃ i a dx fs, x = .int i ∧ y = .ref a ∧ H a = some (.ins C dx fs) ∧ sp [y, x] H Q E
theorem op_cmpRf {op : CmpOp} (hop : ∀ a b, compareOp op a b = richCompare op a b) (hs : OwnM X.K C (cmpInfo op).2.2 g) (dec : DeclC X.prog X.w op) (sub : PySem.W.subIn X.K (.ref C) (.type "int") = some false) (F : FnG X.prog X.w X.K X.mg X.base CX k g fd ps sp) (hr : RoomG k X.A) (hb : Binds X.K fd ps []) (hx : Passes CX X E) :
    OpR X (compareOp op) (rCmpRf C sp E) := by
  intro pins s σ H x y v u Q I rx ry h
  obtain ⟨i, a, dx, fs, rfl, rfl, ha, q⟩ := h
  cases (show u = Value.ref a from ry)
  obtain ⟨t, rfl⟩ := (show ∃ t, v = Value.int i t from rx)
  obtain ⟨ox, od, hd, J⟩ := inst_of I ha
  rw [hop]
  refine rc_ref hr.units0 I.kIn J hd dec sub ?_
  unfold tryCompare
  refine wpAny_bind (PySem.W.ifBound_K I.kIn J hs.at_ hs.fn (wpAny_mono (run_fnG (us := [.ref a, .int i t]) (vs := [.ref a, .int i]) F hr hb .nil hx I (.cons rfl (.cons ⟨t, rfl⟩ .nil)) q) (fun w s' z => ?_) fun _ _ e => e))
  obtain ⟨z', H', I', rz, qz⟩ := z
  have cb := SlX.cmpback (P := EP X pins σ Q) rz ⟨z', H', I', rz, qz⟩
  cases w <;> first | exact cb.elim | exact wpAny_pure ⟨_, rfl, cb⟩
/-- i != x, by x's own __eq__ -/
def rNeRf (C : Addr) (sp : Sp) (E : XK) : R2 := fun x y H Q => ∃ i a dx fs, x = .int i ∧ y = .ref a ∧ H a = some (.ins C dx fs) ∧ sp [y, x] H (fun v H' => ∃ b : Bool, v = .bl b ∧ Q (.bl (!b)) H') E
theorem op_neRf (m : NeM X.K C g) (sub : PySem.W.subIn X.K (.ref C) (.type "int") = some false) (F : FnG X.prog X.w X.K X.mg X.base CX k g fd ps sp) (hr : RoomG (k + 1) X.A) (hb : Binds X.K fd ps []) (hx : Passes CX X E) : OpR X (compareOp .NotEq) (rNeRf C sp E) := by
  intro pins s σ H x y v u Q I rx ry h
  obtain ⟨i, a, dx, fs, rfl, rfl, ha, q⟩ := h
  cases (show u = Value.ref a from ry)
  obtain ⟨t, rfl⟩ := (show ∃ t, v = Value.int i t from rx)
  obtain ⟨ox, od, hd, J⟩ := inst_of I ha
  have hu := hr.units
  have run := run_at (args := ⟨[.ref a, .int i t], []⟩) (ws := [.ref a, .int i t]) (vs := [.ref a, .int i]) F hr.in1 I.env0.in1 hx I (hb s [.ref a, .int i t] I.kIn (by have l := F.len q; exact l)) (.cons rfl (.cons ⟨t, rfl⟩ .nil)) q
  refine rc_ref (op := .NotEq) hr.units0 I.kIn J hd declC_ne sub ?_
  show wpAny _ _ (tryCompare (.ref a) "__ne__" (.int i t)) _ _ _
  unfold tryCompare
  refine wpAny_bind (ifBound_ne I.kIn J m.ne (wpAny_call (codeAny_call_builtin PySem.F.cmp_object.ne.plain PySem.F.cmpEntry_ne (PySem.W.check_slot PySem.F.cmpKind_ne PySem.F.cmpSplit_ne (J.type.andThen (PySem.W.looks_mroIn I.kIn m.ob)) (PySem.F.cmpArgs_ne _ _) ?_))))
  unfold Builtin.«object.__ne__»
  refine wpAny_bind (m := slotArgs _ _ _) (wpAny_pure ?_)
  refine wpAny_bind (wpAny_cRoomFor (by show X.A.units + 1 < cLine; omega) ?_)
  refine wpAny_bind (m := callSpecialIfBound? (.ref a) (Str.ofString "__eq__") [.int i t]) (PySem.W.ifBound_K I.kIn J m.eq.at_ m.eq.fn (wpAny_mono (wp_er run) (fun v s' z => ?_) fun _ _ e => e))
  obtain ⟨w, H', I', rw', b, ez, qz⟩ := z
  subst ez
  cases (show v = Value.bool b from rw')
  refine wpAny_bind (m := truthy (.bool b)) (wpAny_truthy_bool (wpAny_pure ?_))
  exact wpAny_pure ⟨_, rfl, ⟨.bl (!b), H', I', rfl, qz⟩⟩
end
end G
namespace G
open PySem PySem.Spec PySem.Calls PyProof.Rows L2
section
variable {X : Cx} {CX : CXT} {k : Nat} {C g : Addr} {sp : Sp} {E : XK} {fd : FuncData} {ps : List Str}
/-- abs(x) -/
def rAbsO (C : Addr) (sp : Sp) (E : XK) : List V → Hp → VK → Prop := fun xs H Q => ∃ a dx fs, xs = [.ref a] ∧ H a = some (.ins C dx fs) ∧ sp [.ref a] H Q E
theorem call_absO (m : OwnM X.K C "__abs__" g) (F : FnG X.prog X.w X.K X.mg X.base CX k g fd ps sp) (hr : RoomG (k + 1) X.A) (hb : Binds X.K fd ps []) (hx : Passes CX X E) : CallR X (.builtin "abs") (rAbsO C sp E) := by
  intro pins s σ H xs us Q I r h
  obtain ⟨a, dx, fs, rfl, ha, q⟩ := h
  obtain ⟨u, rfl, ru⟩ := vals1 r
  cases (show u = Value.ref a from ru)
  obtain ⟨ox, od, _, J⟩ := inst_of I ha
  have run := run_at (args := ⟨[.ref a], []⟩) (ws := [.ref a]) (vs := [.ref a]) F hr.in1 I.env0.in1 hx I (hb s [.ref a] I.kIn (by have l := F.len q; exact l)) (.cons rfl .nil) q
  refine call_function_entry kind_abs plain_abs entry_abs (args_abs _) ?_
  unfold Builtin.«abs»
  refine wpAny_bind (m := oneArg "abs" _) (wpAny_pure ?_)
  refine wpAny_bind (m := callSpecial? (.ref a) (Str.ofString "__abs__")) (PySem.W.special_fn I.kIn J m.at_ (beq_iff_eq.mp m.fn) (wpAny_mono (wp_er run) (fun v s' z => ?_) fun _ _ e => e))
  exact wpAny_pure ⟨_, rfl, z⟩
end
section
variable {K : PySem.W.Frag} {C a dx : Addr} {fs : List (Str × V)} {sp : Sp} {E : XK} {H : Hp} {Q : VK}
theorem abs_o (h : H a = some (.ins C dx fs)) (q : sp [.ref a] H Q E) : rAbsO C sp E [.ref a] H Q := ⟨a, dx, fs, rfl, h, q⟩
end
end G
namespace G
open PySem PySem.Spec PySem.Calls PyProof.Rows L2
/-! ### six truths as a text; ("a text", None); a row of pairs -/
section
variable {KF : PySem.W.Frag} {H : Hp} {Q : VK} {a d : Addr} {s z : Str} {b0 b1 b2 b3 b4 b5 : Bool}
theorem shown_b (b : Bool) : (PyData.shown (.bool b)).length ≤ 5 := by cases b <;> decide +kernel
theorem repr_l6 (h : SqL KF H a [.bl b0, .bl b1, .bl b2, .bl b3, .bl b4, .bl b5]) (q : Q (.str (PyData.shown (.list [.bool b0, .bool b1, .bool b2, .bool b3, .bool b4, .bool b5]))) H) : rReprG KF [.ref a] H Q :=
  ⟨.ref a, .list [.bool b0, .bool b1, .bool b2, .bool b3, .bool b4, .bool b5], rfl, .lst h (.cons (.bl _) (.cons (.bl _) (.cons (.bl _) (.cons (.bl _) (.cons (.bl _) (.cons (.bl _) .nil)))))), by simp [PyData.showable, PyData.showableAll], by rfl, by
    have h0 := shown_b b0
    have h1 := shown_b b1
    have h2 := shown_b b2
    have h3 := shown_b b3
    have h4 := shown_b b4
    have h5 := shown_b b5
    have e : PyData.shown (.list [.bool b0, .bool b1, .bool b2, .bool b3, .bool b4, .bool b5]) = ("[" : Str) ++ (PyData.shown (.bool b0) ++ (", " : Str) ++ (PyData.shown (.bool b1) ++ (", " : Str) ++ (PyData.shown (.bool b2) ++ (", " : Str) ++ (PyData.shown (.bool b3) ++ (", " : Str) ++ (PyData.shown (.bool b4) ++ (", " : Str) ++ PyData.shown (.bool b5)))))) ++ ("]" : Str) := by
      simp only [PyData.shown_list, PyData.shownAll_cons, PyData.shownAll_nil]
      rfl
    rw [e, sizeLine_eq]
    simp only [strLen_append]
    have : ("[" : Str).length = 1 := by decide
    have : (", " : Str).length = 2 := by decide
    have : ("]" : Str).length = 1 := by decide
    omega, by simp [PyData.depth, PyData.depthAll], q⟩
theorem shp_sn (k : (PyData.str s).canLay0 = true) : SeqAt.shaped (.tuple [.str s, .none]) = true := by
  have k' : PyData.strOk s = true := k
  simp [SeqAt.shaped, PyData.canLay0, PyData.canLayAll0, PyData.depth, PyData.depthAll, k']
theorem eq_tsn (k1 : (PyData.str s).canLay0 = true) (k2 : (PyData.str z).canLay0 = true) (h1 : SqT KF H a [.str s, .non]) (h2 : SqT KF H d [.str z, .non]) (q : Q (.bl (decide (s = z))) H) : rEqG KF (.ref a) (.ref d) H Q :=
  eq_dd (.tup h1 (.cons (.str _) (.cons .non .nil))) (.tup h2 (.cons (.str _) (.cons .non .nil))) (shp_sn k1) (shp_sn k2) (by
    have e : PyData.eqv (.tuple [.str s, .none]) (.tuple [.str z, .none]) = decide (s = z) := by simp [PyData.eqv, PyData.eqvAll, Bool.beq_eq_decide_eq]
    rw [e]
    exact q)
/-- the list holds pairs of ints -/
inductive Prs (H : Hp) : List V → List (Int × Int) → Prop
  | nil : Prs H [] []
  | cons {a : Addr} {p : Int × Int} {xs : List V} {ps : List (Int × Int)} (h : H a = some (.tup [.int p.1, .int p.2])) (r : Prs H xs ps) : Prs H (.ref a :: xs) (p :: ps)
abbrev pdp (p : Int × Int) : PyData := .tuple [.int p.1, .int p.2]
theorem Prs.dp {xs : List V} {ps : List (Int × Int)} (h : Prs H xs ps) : DpAll KF H xs (ps.map pdp) := by
  induction h with
  | nil => exact .nil
  | cons h _ ih => exact .cons (.tup (.of h) (.cons (.int _) (.cons (.int _) .nil))) ih
theorem prs_lay (ps : List (Int × Int)) : PyData.canLayAll0 (ps.map pdp) = true ∧ PyData.depthAll (ps.map pdp) ≤ 1 := by
  induction ps with
  | nil => exact ⟨rfl, by simp [PyData.depthAll]⟩
  | cons p r ih =>
    refine ⟨by simp [PyData.canLayAll0, PyData.canLay0, ih.1], ?_⟩
    have := ih.2
    simp only [List.map_cons, PyData.depthAll, PyData.depth]
    omega
theorem prs_shaped (ps : List (Int × Int)) : SeqAt.shaped (.list (ps.map pdp)) = true := by
  obtain ⟨h1, h2⟩ := prs_lay ps
  have d : PyData.depth (.list (ps.map pdp)) ≤ 2 := by
    simp only [PyData.depth]
    omega
  simp only [SeqAt.shaped, PyData.canLay0, h1, Bool.and_eq_true, decide_eq_true_eq]
  first | omega | (refine ⟨?_, ?_⟩ <;> first | rfl | trivial | omega)
theorem ne_prs {xs : List V} {ps : List (Int × Int)} (h1 : H a = some (.lst xs)) (hp : Prs H xs ps) (h2 : SqL KF H d []) (q : Q (.bl (!decide (ps = []))) H) : rNeG KF (.ref a) (.ref d) H Q :=
  ne_dd (.lst (.of h1) hp.dp) (.lst h2 .nil) (prs_shaped ps) (by rfl) (by
    have e : PyData.eqv (.list (ps.map pdp)) (.list []) = decide (ps = []) := by cases ps <;> simp [PyData.eqv, PyData.eqvAll]
    rw [e]
    exact q)
theorem Prs.kp {H' : Hp} {xs : List V} {ps : List (Int × Int)} (k : Kp H H') (h : Prs H xs ps) : Prs H' xs ps := by
  induction h with
  | nil => exact .nil
  | cons h _ ih => exact .cons (k _ _ h) ih
theorem Prs.md {H' : Hp} {p : Addr} {xs : List V} {ps : List (Int × Int)} (k : Md p H H') (h : Prs H xs ps) : Prs H' xs ps := by
  induction h with
  | nil => exact .nil
  | cons h _ ih => exact .cons (k.tup h) ih
theorem Prs.len {xs : List V} {ps : List (Int × Int)} (h : Prs H xs ps) : xs.length = ps.length := by
  induction h with
  | nil => rfl
  | cons _ _ ih => simp [ih]
theorem Prs.app {x : Addr} {p : Int × Int} {xs : List V} {ps : List (Int × Int)} (h : Prs H xs ps) (e : H x = some (.tup [.int p.1, .int p.2])) : Prs H (xs ++ [.ref x]) (ps ++ [p]) := by
  induction h with
  | nil => exact .cons e .nil
  | cons h _ ih => exact .cons h ih
theorem Prs.mem {v : V} {xs : List V} {ps : List (Int × Int)} (h : Prs H xs ps) (hv : v ∈ xs) : ∃ a p, v = .ref a ∧ p ∈ ps ∧ H a = some (.tup [.int p.1, .int p.2]) := by
  induction h with
  | nil => cases hv
  | cons h _ ih =>
    rcases List.mem_cons.mp hv with e | e
    · exact ⟨_, _, e, List.mem_cons_self, h⟩
    · obtain ⟨a, p, e1, e2, e3⟩ := ih e
      exact ⟨a, p, e1, List.mem_cons_of_mem _ e2, e3⟩
theorem Prs.at {xs : List V} {ps : List (Int × Int)} (h : Prs H xs ps) {i : Nat} {v : V} (e : xs[i]? = some v) : ∃ a p, v = .ref a ∧ ps[i]? = some p ∧ H a = some (.tup [.int p.1, .int p.2]) := by
  induction h generalizing i with
  | nil => simp at e
  | cons h _ ih =>
    cases i with
    | zero =>
      simp at e
      exact ⟨_, _, e.symm, by simp, h⟩
    | succ i =>
      simp at e
      obtain ⟨a, p, e1, e2, e3⟩ := ih e
      exact ⟨a, p, e1, by simpa using e2, e3⟩
end
end G
namespace G
open PySem PySem.Spec PySem.Calls PyProof.Rows L2
section
variable {tl : TA} {i j k : Nat} {x y z : V} {σ σ' : L2.St} {H : Hp} {n b c : L2.St → Hp → Prop} {r : VK} {Q : VK}
def Par3K (i j k : Nat) (vs : List V) (σ : L2.St) (H1 : Hp) (n : L2.St → Hp → Prop) : Prop := ∃ u v w, vs = [u, v, w] ∧ n (((σ.set i (some u)).set j (some v)).set k (some w)) H1
theorem st_par3 (q : tl σ H fun vs H1 => Par3K i j k vs σ H1 n) : tPar3 i j k tl ⟨n, r, b, c⟩ σ H := q
theorem st_par3K (e : ((σ.set i (some x)).set j (some y)).set k (some z) = σ') (q : n σ' H) : Par3K i j k [x, y, z] σ H n := ⟨x, y, z, rfl, by rw [e]; exact q⟩
/-- x(lambda: ..) -/
theorem st_lamG {P : Addr} {TT : (XK → Hp → VK → Prop) → Hp → VK → Prop} {t : XK → TE} (h : TabP H P) (q : ∀ H1, Kp H H1 → TT (fun E H' Q' => t E σ H' Q') H1 Q) : tLamG P TT t σ H Q := ⟨h, q⟩
end
end G
namespace G
open PySem PySem.Spec PySem.Calls PyProof.Rows L2
/-! ### own exceptions whose __init__ says super().__init__(x, ..) and keeps its parameters under their names -/
def supArgs : List Str → List Expr → Bool
  | [], [] => true
  | n :: ns, .Name m _ :: r => decide (m = n) && supArgs ns r
  | _, _ => false
def supRest : List Str → List Stmt → Bool
  | [], [] => true
  | n :: ns, .Assign [.Attribute (.Name s _) m _] (.Name v _) _ :: r => decide (s = "self") && (decide (m = n) && (decide (v = n) && supRest ns r))
  | _, _ => false
def supBody (ns : List Str) : FuncBody → Bool
  | .stmts (.Expr (.Call (.Attribute (.Call (.Name s _) [] [] _) i p2) as [] p3) _ :: r) => decide (p2.endLine = p3.line) && decide (s = "super") && (decide (i = "__init__") && (supArgs ns as && supRest ns r))
  | _ => false
def supPar (ns : List Str) (a : Arguments) : Bool := match a with
  | ⟨[], as, none, [], [], none, []⟩ => decide (as.map (·.arg) = ("self" : Str) :: ns)
  | _ => false
def supScope (ns : List Str) (sc : Scope) : Bool := decide (sc.kind = .function) && (!sc.isCoroutine && (!sc.isGenerator && (decide (sc.names.lookup ("super" : Str) = some .globalImplicit) && (decide (sc.names.lookup ("__class__" : Str) = some .free) &&
  ((("self" : Str) :: ns).all (fun x => decide (sc.names.lookup x = some .local)) && sc.names.all fun y => decide (y.2 ≠ .cell) && (decide (y.2 ≠ .free) || decide (y.1 = ("__class__" : Str))))))))
def supNames (ns : List Str) : Bool := decide ((("self" : Str) :: ns).Nodup) && (decide (ns ≠ []) && (decide (ns.length ≤ 20) && (("self" : Str) :: ns).all fun n => !(n == "__debug__") && !(n == "__classdict__")))
def fileIn (K : PySem.W.Frag) (c : Addr) (file : Str) : Bool := match K.lookup c with
  | some ⟨_, _, .fields vs, _⟩ => (match (vs[2]? : Option Value) with
    | some (.str f _) => decide (file = f)
    | _ => false)
  | _ => false
def cellIn (K : PySem.W.Frag) (c C : Addr) : Bool := match K.lookup c with
  | some ⟨_, _, .cell (some (.ref D)), _⟩ => decide (D = C)
  | _ => false
def supFn (K : PySem.W.Frag) (C : Addr) (ns : List Str) (file : Str) (fd : FuncData) : Bool := match fd.closure, fd.code, fd.defaults with
  | [(c, cc)], .ref cda, .none => decide (c = "__class__") && (cellIn K cc C && (fileIn K cda file && (PySem.W.codeIn K (.ref cda) fd.qualname && (decide (fd.globals = mainGlobals) && (decide (fd.builtins = builtinsNs) && (supPar ns fd.params && (supBody ns fd.body && supScope ns fd.scope)))))))
  | _, _, _ => false
def oexB (K : PySem.W.Frag) (C : Addr) : Bool := (match K.lookup C with
  | some ⟨.type "type", _, .cls cd, sl⟩ => (match cd.mro, sl.toList with
    | .ref C' :: bm, [_, _, _, _, some (.builtin n), _] => decide (C' = C) && (decide (n = "ValueError.__new__") && (!cd.hasDel && (cd.hasDict && (PySem.HandSPX.refsVE bm && decide (PySem.W.alongIn K "__init__" bm = some (some (.builtin "ValueError.__init__")))))))
    | _, _ => false)
  | _ => false)
theorem oexB_ok {K : PySem.W.Frag} {C : Addr} (q : oexB K C = true) : ∃ nm qn N bs bm sn sub ab col dd k0 k1 k2 k3 k5, K.lookup C = some (excClassObj nm qn C N bs bm true sn sub ab col dd k0 k1 k2 k3 k5 "ValueError.__new__") ∧ PySem.HandSPX.refsVE bm = true ∧
    PySem.W.alongIn K "__init__" bm = some (some (.builtin "ValueError.__init__")) := by
  unfold oexB at q
  split at q
  · rename_i dd cd sl ho
    split at q
    · rename_i C' bm k0 k1 k2 k3 n k5 hm hs
      obtain ⟨h1, q⟩ := He.ba q
      obtain ⟨h2, q⟩ := He.ba q
      obtain ⟨h3, q⟩ := He.ba q
      obtain ⟨h4, q⟩ := He.ba q
      obtain ⟨h5, h6⟩ := He.ba q
      replace h1 := of_decide_eq_true h1
      replace h2 := of_decide_eq_true h2
      subst h1 h2
      obtain ⟨nm, bs, mro, ns, qn, hd, sn, sub, ab, col, del⟩ := cd
      dsimp only at hm h3 h4
      subst hm h4
      replace h3 : del = false := by simpa using h3
      subst h3
      have hsl : sl = #[k0, k1, k2, k3, some (.builtin "ValueError.__new__"), k5] := by
        obtain ⟨l⟩ := sl
        simp only at hs
        rw [hs]
      subst hsl
      exact ⟨nm, qn, ns, bs, bm, sn, sub, ab, col, dd, k0, k1, k2, k3, k5, ho, h5, of_decide_eq_true h6⟩
    · cases q
  · cases q
/-- all that is asked of the class at C -/
def supAll (K : PySem.W.Frag) (C : Addr) (ns : List Str) (file : Str) : Bool := (match PySem.W.findIn K (.ref C) "__init__" with
  | some (some (.ref f)) => decide (PySem.W.typeIn K (.ref f) = some (.type "function")) && (match K.lookup f with
    | some ⟨_, _, .func fd, _⟩ => supFn K C ns file fd
    | _ => false)
  | _ => false) && (oexB K C && (decide (PySem.W.findIn K (.ref C) "__setattr__" = some (some (.builtin "object.__setattr__"))) && (decide (PySem.W.subIn K (.ref C) (.type "BaseException") = some true) && (decide (PySem.W.typeIn K (.ref C) = some (.type "type")) && (PySem.W.keepIn K (.ref C) &&
  (decide (PySem.W.subIn K (.ref C) (.type "ValueError") = some true) && (decide (PySem.W.subIn K (.ref C) (.ref C) = some true) && (decide (PySem.W.nsIn K cStatics "thirdparty.any" = some none) && (supNames ns && (ns.all (fun n => decide (PySem.W.findIn K (.ref C) n = some none)) && xfB K C))))))))))
def supB (x : Str) (ns : List Str) (file : Str) : ExB := fun K => supAll K (He.ga K x) ns file
structure SupFd (K : PySem.W.Frag) (C f : Addr) (ns : List Str) (file : Str) (fd : FuncData) (name qual : Str) (params : Arguments) (as : List Expr) (rest : List Stmt) (scope : Scope) (kV doc pm ct : Value) (an : Option Addr) (cda cc : Addr) (p0 p1 p2 p3 p4 : Pos) : Prop where
  eq : fd = PySem.W.ksFn name qual params (.Expr (.Call (.Attribute (.Call (.Name "super" p0) [] [] p1) "__init__" p2) as [] p3) p4 :: rest) scope .none kV doc pm an (.ref cda) ct cc
  at_ : ∃ oc od osl, K.lookup f = some ⟨oc, od, .func fd, osl⟩
  args : supArgs ns as = true
  line : p2.endLine = p3.line
  rest : supRest ns rest = true
  par : supPar ns params = true
  scope : supScope ns scope = true
  code : PySem.W.codeIn K (.ref cda) qual = true
  file : fileIn K cda file = true
  cell : cellIn K cc C = true
structure SupC (K : PySem.W.Frag) (C : Addr) (ns : List Str) (file : Str) : Prop where
  fn : ∃ (f : Addr) (fd : FuncData), PySem.W.findIn K (.ref C) "__init__" = some (some (.ref f)) ∧ PySem.W.typeIn K (.ref f) = some (.type "function") ∧ ∃ name qual params as rest scope kV doc pm ct an cda cc p0 p1 p2 p3 p4, SupFd K C f ns file fd name qual params as rest scope kV doc pm ct an cda cc p0 p1 p2 p3 p4
  oex : OexC K C
  raw : oexB K C = true
  ve : PySem.W.subIn K (.ref C) (.type "ValueError") = some true
  own : PySem.W.subIn K (.ref C) (.ref C) = some true
  st : PySem.W.nsIn K cStatics "thirdparty.any" = some none
  names : supNames ns = true
  no : ∀ n ∈ ns, PySem.W.findIn K (.ref C) n = some none
  xf : XfC K C
theorem supAll_ok {K : PySem.W.Frag} {C : Addr} {ns : List Str} {file : Str} (h : supAll K C ns file = true) : SupC K C ns file := by
  obtain ⟨h0, h⟩ := He.ba h
  obtain ⟨h1, h⟩ := He.ba h
  obtain ⟨h2, h⟩ := He.ba h
  obtain ⟨h3, h⟩ := He.ba h
  obtain ⟨h4, h⟩ := He.ba h
  obtain ⟨h5, h⟩ := He.ba h
  obtain ⟨h6, h⟩ := He.ba h
  obtain ⟨h7, h⟩ := He.ba h
  obtain ⟨h8, h⟩ := He.ba h
  obtain ⟨h9, h⟩ := He.ba h
  obtain ⟨h10, h11⟩ := He.ba h
  refine ⟨?_, ?_, h1, of_decide_eq_true h6, of_decide_eq_true h7, of_decide_eq_true h8, h9, fun n hn => of_decide_eq_true (List.all_eq_true.mp h10 n hn), xfB_ok h11⟩
  · split at h0
    · rename_i f e
      obtain ⟨k1, k2⟩ := He.ba h0
      split at k2
      · rename_i oc od fd osl lk
        refine ⟨f, fd, e, of_decide_eq_true k1, ?_⟩
        unfold supFn at k2
        split at k2
        · rename_i c cc cda ec ed edf
          obtain ⟨j1, k2⟩ := He.ba k2
          obtain ⟨j2, k2⟩ := He.ba k2
          obtain ⟨j3, k2⟩ := He.ba k2
          obtain ⟨j4, k2⟩ := He.ba k2
          obtain ⟨j5, k2⟩ := He.ba k2
          obtain ⟨j6, k2⟩ := He.ba k2
          obtain ⟨j7, k2⟩ := He.ba k2
          obtain ⟨j8, j9⟩ := He.ba k2
          replace j1 := of_decide_eq_true j1
          replace j5 := of_decide_eq_true j5
          replace j6 := of_decide_eq_true j6
          clear h0 k2 h
          obtain ⟨n1, n2, n3, n4, n5, n6, n7, n8, n9, n10, n11, n12, n13, n14, n15⟩ := fd
          dsimp only at ec ed edf j4 j5 j6 j7 j8 j9
          subst ec ed edf j1 j5 j6
          unfold supBody at j8
          split at j8
          · rename_i s p0 p1 i p2 as p3 p4 r
            obtain ⟨i01, j8⟩ := He.ba j8
            obtain ⟨i0, i1⟩ := He.ba i01
            obtain ⟨i2, j8⟩ := He.ba j8
            obtain ⟨i3, i4⟩ := He.ba j8
            replace i1 := of_decide_eq_true i1
            replace i2 := of_decide_eq_true i2
            subst i1 i2
            exact ⟨_, _, _, _, _, _, _, _, _, _, _, _, _, _, _, _, _, _, rfl, ⟨_, _, _, lk⟩, i3, of_decide_eq_true i0, i4, j7, j9, j4, j3, j2⟩
          · cases j8
        · cases k2
      · cases k2
    · cases h0
  · obtain ⟨nm, qn, N, bs, bm, sn, sub, ab, col, dd, k0, k1, k2, k3, k5, hC, hbm, _⟩ := oexB_ok h1
    exact ⟨⟨nm, qn, N, bs, bm, sn, sub, ab, col, dd, k0, k1, k2, k3, k5, hC, hbm⟩, of_decide_eq_true h2, of_decide_eq_true h3, of_decide_eq_true h4, h5⟩
theorem supB_ok {K : PySem.W.Frag} {x : Str} {ns : List Str} {file : Str} (h : supB x ns file K = true) : SupC K (He.ga K x) ns file := supAll_ok h
end G
namespace G
open PySem PySem.Spec PySem.Calls PyProof.Rows L2
/-- what is asked of the program: its file, no own `super` -/
class SupP (P : Program) (file : Str) : Prop where
  ok : ((P.main.file : Str) == file) = true ∧ (P.main.scope.names.lookup ("super" : Str)).isSome = false
structure ScF (ns : List Str) (sc : Scope) : Prop where
  kind : sc.kind = .function
  co : sc.isCoroutine = false
  gen : sc.isGenerator = false
  sup : sc.names.lookup ("super" : Str) = some .globalImplicit
  cls : sc.names.lookup ("__class__" : Str) = some .free
  loc : ∀ x ∈ (("self" : Str) :: ns), sc.names.lookup x = some .local
  nocell : ∀ y ∈ sc.names, y.2 ≠ .cell
  free : ∀ y ∈ sc.names, y.2 = .free → y.1 = "__class__"
theorem supScope_ok {ns : List Str} {sc : Scope} (h : supScope ns sc = true) : ScF ns sc := by
  obtain ⟨h1, h⟩ := He.ba h
  obtain ⟨h2, h⟩ := He.ba h
  obtain ⟨h3, h⟩ := He.ba h
  obtain ⟨h4, h⟩ := He.ba h
  obtain ⟨h5, h⟩ := He.ba h
  obtain ⟨h6, h7⟩ := He.ba h
  refine ⟨of_decide_eq_true h1, by simpa using h2, by simpa using h3, of_decide_eq_true h4, of_decide_eq_true h5, fun x hx => of_decide_eq_true (List.all_eq_true.mp h6 x hx), fun y hy => of_decide_eq_true (He.ba (List.all_eq_true.mp h7 y hy)).1, fun y hy e => ?_⟩
  have z := (He.ba (List.all_eq_true.mp h7 y hy)).2
  rcases Bool.or_eq_true_iff.mp z with z | z
  · exact absurd e (of_decide_eq_true z)
  · exact of_decide_eq_true z
/-- the context of such an __init__ -/
def cxS (CX : CXT) (P : Program) (w : World) (K : PySem.W.Frag) (mg : Str → Option Value) (base : Heap) (N : List Str) (qual : Str) (scope : Scope) (f cda cc : Addr) (A : Around) (outer : List Env) (s : Shared) (H : Hp) (E : XK) : Cx where
  prog := P
  w := w
  K := K
  mg := mg
  base := base
  A := A.deeper (PySem.W.ksEnv qual scope s.heap.objs.size f (.ref cda) cc)
  N := N
  s_0 := s
  H_0 := H
  env := PySem.W.ksEnv qual scope s.heap.objs.size f (.ref cda) cc
  outer := outer
  stack := PySem.W.ksEnv qual scope s.heap.objs.size f (.ref cda) cc :: outer
  ex := []
  calm := true
  fn := fun _ => false
  pn := []
  xe := fun e s' => wpAny (model P w) (A.deeper (PySem.W.ksEnv qual scope s.heap.objs.size f (.ref cda) cc)) (leaving (PySem.W.ksEnv qual scope s.heap.objs.size f (.ref cda) cc) e) (fun _ s'' => CX outer H s E e s'') (fun e' s'' => CX outer H s E e' s'') s'
theorem lookup_nd {x : Str} {v : Value} : ∀ {l : List (Str × Value)}, (l.map (·.1)).Nodup → (x, v) ∈ l → l.lookup x = some v
  | [], _, h => by cases h
  | (y, u) :: r, nd, h => by
    rw [List.map_cons, List.nodup_cons] at nd
    rcases List.mem_cons.mp h with e | e
    · cases e
      simp [List.lookup]
    · have hne : x ≠ y := fun z => nd.1 (by rw [← z]; exact List.mem_map.mpr ⟨_, e, rfl⟩)
      have hb : (x == y) = false := by simpa using hne
      simp only [List.lookup, hb]
      exact lookup_nd nd.2 e
section
variable {CX : CXT} {P : Program} {w : World} {K : PySem.W.Frag} {mg : Str → Option Value} {base : Heap} {ns : List Str} {qual : Str} {scope : Scope} {f cda cc C : Addr} {A : Around} {outer : List Env} {s : Shared} {H : Hp} {E : XK} {us : List Value} {vs : List V} {h₁ : Heap} {tk : Nat}
theorem sup_start (S : ScF ns scope) (nd : (("self" : Str) :: ns).Nodup) (hd : A.handled = none) (e0 : Env0 P w K mg base A outer s H) (hc : base.IsCell cc (some (.ref C))) (hl : vs.length = ns.length + 1) (r : Vals vs us)
    (hns : h₁.Ns s.heap.objs.size fun x => ((("self" : Str) :: ns).zip us).reverse.lookup x) (kp : ∀ b o, s.heap.get? b = some o → h₁.get? b = some o) :
    Inv (cxS CX P w K mg base (("self" : Str) :: ns) qual scope f cda cc A outer s H E) [] (vs.map some) H { s with heap := h₁, toks := tk } := by
  have noA : ∀ b : Addr, b ∉ (cxS CX P w K mg base (("self" : Str) :: ns) qual scope f cda cc A outer s H E).ex := fun b z => absurd (show b ∈ ([] : List Addr) from z) (by simp)
  have cl1 : ∀ {y : Str} {c : Addr}, (([("__class__", cc)] : List (Str × Addr)).lookup y = some c) → y = "__class__" ∧ c = cc := fun {y c} e => by
    have m := PySem.mem_of_lookup e
    rw [List.mem_singleton] at m
    cases m
    exact ⟨rfl, rfl⟩
  obtain ⟨oc, hoc, hdc⟩ := hc
  have bc := e0.bs cc oc hoc
  refine ⟨⟨e0.mod, S.kind, rfl, rfl, Nat.le_refl _, fun y z c e1 e2 => ?_, fun y hy => ?_, fun y c z _ => ?_, fun _ => hd, Around.frames_deeper e0.frames, .inr ⟨rfl, rfl⟩, fun b z => absurd z (noA b), e0.bs, e0.bsz, fun b _ _ => noA b,
      fun b z => absurd z (noA b), e0.funs, e0.frf⟩,
    rfl, e0.bare, Un.kept kp, ⟨_, hns, fun i y v e1 e2 e3 => ?_⟩, fun y c e => ?_, e0.hok.fresh (Nat.le_refl _), fun y c e => ?_, fun q hq => absurd (show q ∈ ([] : List (Addr × Obj)) ++ [] from hq) (by simp), e0.hok.kept kp, ?_⟩
  · rw [(cl1 e1).1, (cl1 e2).1]
  · have hy : scope.names.lookup y = some .cell ∨ scope.names.lookup y = some .free := hy
    rcases hy with hy | hy
    · exact absurd rfl (S.nocell _ (PySem.mem_of_lookup hy))
    · have z := S.free _ (PySem.mem_of_lookup hy) rfl
      have z : y = "__class__" := z
      subst z
      exact ⟨cc, rfl⟩
  · have z : false = true := z
    cases z
  · have ha : vs[i]? = some v := by
      rw [List.getElem?_map] at e2
      cases e : vs[i]? with
      | none => rw [e] at e2; cases e2
      | some a => rw [e] at e2; cases e2; rfl
    obtain ⟨u, hu, rv⟩ := r.get ha
    have e1 : (("self" : Str) :: ns)[i]? = some y := e1
    refine ⟨u, rv, .inl ⟨S.loc y (List.mem_of_getElem? e1), ?_⟩⟩
    have hz : ((("self" : Str) :: ns).zip us)[i]? = some (y, u) := List.getElem?_zip_eq_some.mpr ⟨e1, hu⟩
    refine lookup_nd ?_ (List.mem_reverse.mpr (List.mem_of_getElem? hz))
    rw [List.map_reverse]
    refine List.nodup_iff_pairwise_ne.mpr (List.pairwise_reverse.mpr ((List.nodup_iff_pairwise_ne.mp ?_).imp fun h => Ne.symm h))
    have hlen : (("self" : Str) :: ns).length ≤ us.length := by
      rw [← r.length, hl]
      exact Nat.le_refl _
    rw [List.map_fst_zip hlen]
    exact nd
  · have e := cl1 e
    obtain ⟨_, rfl⟩ := e
    exact ⟨_, oc, kp _ _ bc.1, hdc⟩
  · have e := cl1 e
    obtain ⟨_, rfl⟩ := e
    exact bc.2
  · show (vs.map some).length = (("self" : Str) :: ns).length
    rw [List.length_map, hl, List.length_cons]
end
section
variable {X : Cx} {pins : List (Addr × Obj)} {σ : L2.St} {H : Hp} {s : Shared} {a C u : Addr} {E : Value → Shared → Prop}
def OkN (n : Str) : Prop := (n == ("__debug__" : Str)) = false ∧ (n == ("__classdict__" : Str)) = false
theorem supArgs_nil {as : List Expr} (h : supArgs [] as = true) : as = [] := by
  unfold supArgs at h
  split at h
  · rfl
  · rename_i e
    exact absurd e (by simp)
  · cases h
theorem supArgs_cons {n : Str} {ns : List Str} {as : List Expr} (h : supArgs (n :: ns) as = true) : ∃ p r, as = .Name n p :: r ∧ supArgs ns r = true := by
  unfold supArgs at h
  split at h
  · rename_i e
    cases e
  · rename_i n' ns' m p r e
    cases e
    obtain ⟨h1, h2⟩ := He.ba h
    replace h1 := of_decide_eq_true h1
    subst h1
    exact ⟨p, r, rfl, h2⟩
  · cases h
theorem supRest_nil {as : List Stmt} (h : supRest [] as = true) : as = [] := by
  unfold supRest at h
  split at h
  · rfl
  · rename_i e
    exact absurd e (by simp)
  · cases h
theorem supRest_cons {n : Str} {ns : List Str} {as : List Stmt} (h : supRest (n :: ns) as = true) : ∃ p p' pv pos r, as = .Assign [.Attribute (.Name "self" p) n p'] (.Name n pv) pos :: r ∧ supRest ns r = true := by
  unfold supRest at h
  split at h
  · rename_i e
    cases e
  · rename_i n' ns' s p m p' v pv pos r e
    cases e
    obtain ⟨h1, h⟩ := He.ba h
    obtain ⟨h2, h⟩ := He.ba h
    obtain ⟨h3, h4⟩ := He.ba h
    replace h1 := of_decide_eq_true h1
    replace h2 := of_decide_eq_true h2
    replace h3 := of_decide_eq_true h3
    subst h1 h2 h3
    exact ⟨p, p', pv, pos, r, rfl, h4⟩
  · cases h
/-- the written arguments -/
theorem sup_pa {ns : List Str} : ∀ {as : List Expr} {ys : List V}, supArgs ns as = true → ys.length = ns.length → (∀ n ∈ ns, OkN n ∧ Vis X.env.scope n) → (∀ p ∈ ns.zip ys, ∃ i : Nat, X.N[i]? = some p.1 ∧ σ[i]? = some (some p.2)) →
    PA X as (fun σ' H Q => σ' = σ ∧ Q ys H) ∧ ∀ pos : Pos, (backTo pos (starEach as X.env)).any (·.1) = false := by
  induction ns with
  | nil =>
    intro as ys h hl _ _
    cases supArgs_nil h
    cases List.eq_nil_of_length_eq_zero hl
    exact ⟨⟨fun pos pins s σ H Q I h => pa_nil.run pos pins s σ H Q I h.2⟩, fun _ => rfl⟩
  | cons n ns ih =>
    intro as ys h hl hn hz
    obtain ⟨p, r, rfl, h2⟩ := supArgs_cons h
    cases ys with
    | nil => cases hl
    | cons y ys =>
      obtain ⟨ihp, iha⟩ := ih (as := r) (ys := ys) h2 (by simpa using hl) (fun n hm => hn n (List.mem_cons_of_mem _ hm)) (fun p hp => hz p (by rw [List.zip_cons_cons]; exact List.mem_cons_of_mem _ hp))
      obtain ⟨i, e1, e2⟩ := hz (n, y) (by rw [List.zip_cons_cons]; exact List.mem_cons_self)
      obtain ⟨⟨d1, d2⟩, v⟩ := hn n List.mem_cons_self
      refine ⟨⟨fun pos pins s σ' H Q I h => ?_⟩, fun pos => ?_⟩
      · obtain ⟨rfl, q⟩ := h
        exact (pa_cons (pe_var (pos := p) e1 v d1 d2) ihp).run pos pins s σ' H Q I ⟨y, e2, rfl, q⟩
      · exact iha pos
theorem supArgs_len : ∀ {ns : List Str} {as : List Expr}, supArgs ns as = true → as.length = ns.length := by
  intro ns
  induction ns with
  | nil =>
    intro as h
    rw [supArgs_nil h]
    rfl
  | cons n ns ih =>
    intro as h
    obtain ⟨p, r, rfl, h2⟩ := supArgs_cons h
    rw [List.length_cons, List.length_cons, ih h2]
theorem sup_eval {o : Expr} {name : Str} {as : List Expr} {p2 p3 : Pos} {env : Env} (hl : p2.endLine = p3.line) (h : (backTo p3 (starEach as env)).any (·.1) = false) (hn : as.length < 29) :
    eval (.Call (.Attribute o name p2) as [] p3) env = (do
      let ov ← attributeBase o name env (eval o env)
      standAt p2.atName
      let (f, first) ← holding [ov] (getMethod ov name (do return (← importBound o env).getD true))
      callWith p3 f first (backTo p3 (starEach as env)) []) := by
  have hf : methodCallForm (as.length + ([] : List Keyword).length) (backTo p3 (starEach as env)) (backToKw p3 (keywordEach [] env)) = true := by
    unfold methodCallForm
    rw [Bool.and_eq_true, Bool.and_eq_true]
    refine ⟨⟨List.all_eq_true.mpr fun x hx => ?_, rfl⟩, ?_⟩
    · have z := List.any_eq_false.mp h x hx
      simpa using z
    · show decide (as.length + 0 + 0 < 30) = true
      exact decide_eq_true (by omega)
  have hp : methodCallPos true o env p2 p3 = pure p3 := by
    unfold methodCallPos
    rw [if_pos (by simp [hl])]
  show (do
    let ov ← attributeBase o name env (eval o env)
    standAt p2.atName
    methodCall o name p2 p3 env ov (as.length + ([] : List Keyword).length) (backTo p3 (starEach as env)) (backToKw p3 (keywordEach [] env))) = _
  unfold methodCall calleeOf
  rw [hf]
  simp only [if_true, hp, pure_bind]
  rfl
/-- the call of the bound ValueError.__init__: nothing of it is told -/
theorem sup_call {us : List Value} {Q : Value → Shared → Prop} (T : OexC X.K C) (I : Inv X pins σ H s) (e : H a = some (exo a C none)) (hu : s.heap.get? u = some (PySem.W.kxs_mw "ValueError.__init__" a)) (hl : us.length ≤ sizeLine) (h : ∀ s', Inv X pins σ H s' → Q .none s') :
    wpAny (model X.prog X.w) X.A (call (.ref u) us) Q E s := by
  obtain ⟨nm, q, N, bs, bm, sn, sub, ab, col, dd, k0, k1, k2, k3, k5, hC, hbm⟩ := T.cls
  obtain ⟨t1, ho⟩ := exo_at I.hok e
  obtain ⟨hp, g, d, t, os⟩ := s
  refine wpAny_call (codeAny_of_tree ?_)
  show wpAny _ X.A.in1 (callAny (.ref u) ⟨us, []⟩) _ _ _
  simp only [callAny]
  refine wpAny_bind (wpAny_load hu ?_)
  simp only [PySem.W.kxs_mw, show (Value.type "method-wrapper" == Value.type "method" || Value.type "method-wrapper" == Value.type "builtin_function_or_method" || Value.type "method-wrapper" == Value.type "method-wrapper") = true by decide, if_true]
  refine PySem.W.KFB.if_so (by decide) ?_
  refine wpAny_bind (PySem.W.check_bound_init F.excBase_ValueError.toExcCallFacts (I.kIn _ _ hC) ho rfl ?_)
  refine wpAny_bind (wpAny_pure (wpAny_pure ?_))
  refine ⟨plainId_quiet F.excBase_ValueError.init.plain _, codeAny_builtin F.excBase_ValueError.initEntry ?_⟩
  refine PySem.W.exc_init_tree (cls := .ref C) (t0 := t1) (dv := none) (c2 := .none) (c3 := .none) (b4 := .bool false) ho hl fun h' k hx _ => ?_
  have J := I.write (t' := t) (x := a) (e := a) (o := exo a C none) (by rw [e]; exact True.intro) (.inl rfl) k ⟨_, hx⟩ (exo_ok hx)
  have eu : upd H a (exo a C none) = H := by
    funext b
    by_cases hb : b = a
    · rw [hb, upd_same, e]
    · rw [upd_ne hb]
  rw [eu] at J
  exact h _ J
/-- the fields, once there is a dict -/
theorem sup_rest {dx : Addr} {ns : List Str} (T : OexC X.K C) (hself : X.N[0]? = some ("self" : Str)) (vself : Vis X.env.scope "self") (hne : dx ≠ a) (h0 : σ[0]? = some (some (.ref a))) : ∀ {rest : List Stmt} {ys : List V} {fs : List (Str × V)} {H : Hp} {s : Shared} {D : Ends}, supRest ns rest = true → ys.length = ns.length →
    (∀ n ∈ ns, OkN n ∧ Vis X.env.scope n) → (∀ p ∈ ns.zip ys, ∃ i : Nat, X.N[i]? = some p.1 ∧ σ[i]? = some (some p.2)) → (∀ n ∈ ns, PySem.W.findIn X.K (.ref C) n = some none) →
    H a = some (exo a C (some dx)) → H dx = some (exd dx fs) → fs.length + ns.length ≤ 900 → Inv X pins σ H s → D.nx σ (upd H dx (exd dx ((ns.zip ys).reverse ++ fs))) → wpAny (model X.prog X.w) X.A (execs rest X.env) (SP X pins D) X.xe s := by
  induction ns with
  | nil =>
    intro rest ys fs H s D h hl _ _ _ ea ed _ I q
    cases supRest_nil h
    cases List.eq_nil_of_length_eq_zero hl
    refine pss_nil.run pins s σ H D I ?_
    have eu : upd H dx (exd dx fs) = H := by
      funext b
      by_cases hb : b = dx
      · rw [hb, upd_same, ed]
      · rw [upd_ne hb]
    have q : D.nx σ (upd H dx (exd dx fs)) := q
    rw [eu] at q
    exact q
  | cons v ns ih =>
    intro rest ys fs H s D h hl hn hz hno ea ed hL I q
    obtain ⟨p, p', pv, pos, r, rfl, h4⟩ := supRest_cons h
    cases ys with
    | nil => cases hl
    | cons y ys =>
      obtain ⟨i, e1, e2⟩ := hz (v, y) (by rw [List.zip_cons_cons]; exact List.mem_cons_self)
      obtain ⟨⟨d1, d2⟩, vv⟩ := hn v List.mem_cons_self
      rw [List.length_cons] at hL
      refine wpAny_execs_cons (thn ((ps_ost (f := v) (p' := p') (pos := pos) (pe_var (i := 0) (pos := p) hself vself) (pe_var (pos := pv) e1 vv d1 d2)).run pins s σ H { D with nx := fun σ' H' => σ' = σ ∧ H' = upd H dx (exd dx ((v, y) :: fs)) } I
        ⟨y, e2, .ref a, h0, a, C, rfl, T, hno v List.mem_cons_self, .inr ⟨dx, fs, ea, ed, by omega, rfl, rfl⟩⟩) fun f s1 q1 => ?_)
      cases f with
      | next =>
        obtain ⟨σ', H', I', e3, e4⟩ := q1
        subst e3 e4
        refine ih (rest := r) (ys := ys) (fs := (v, y) :: fs) h4 (by simpa using hl) (fun n hm => hn n (List.mem_cons_of_mem _ hm)) (fun p hp => hz p (by rw [List.zip_cons_cons]; exact List.mem_cons_of_mem _ hp)) (fun n hm => hno n (List.mem_cons_of_mem _ hm)) ?_ upd_same (by rw [List.length_cons]; omega) I' ?_
        · rw [upd_ne (Ne.symm hne)]
          exact ea
        · have eu : upd (upd H dx (exd dx ((v, y) :: fs))) dx (exd dx ((ns.zip ys).reverse ++ (v, y) :: fs)) = upd H dx (exd dx (((v :: ns).zip (y :: ys)).reverse ++ fs)) := by
            funext b
            by_cases hb : b = dx
            · rw [hb, upd_same, upd_same, List.zip_cons_cons, List.reverse_cons, List.append_assoc]
              rfl
            · rw [upd_ne hb, upd_ne hb, upd_ne hb]
          rw [eu]
          exact q
      | ret w => exact q1
      | brk => exact q1
      | cont => exact q1
/-- all the fields -/
theorem sup_first (T : OexC X.K C) (hself : X.N[0]? = some ("self" : Str)) (vself : Vis X.env.scope "self") {ns : List Str} {rest : List Stmt} {ys : List V} {D : Ends} (hr : supRest ns rest = true) (hne : ns ≠ []) (hl : ys.length = ns.length)
    (hn : ∀ n ∈ ns, OkN n ∧ Vis X.env.scope n) (hz : ∀ p ∈ ns.zip ys, ∃ i : Nat, X.N[i]? = some p.1 ∧ σ[i]? = some (some p.2)) (hno : ∀ n ∈ ns, PySem.W.findIn X.K (.ref C) n = some none) (h0 : σ[0]? = some (some (.ref a)))
    (ea : H a = some (exo a C none)) (hL : ns.length ≤ 20) (I : Inv X pins σ H s) (q : ∀ dx, H dx = none → dx ≠ a → D.nx σ (upd (upd H dx (exd dx (ns.zip ys).reverse)) a (exo a C (some dx)))) :
    wpAny (model X.prog X.w) X.A (execs rest X.env) (SP X pins D) X.xe s := by
  cases ns with
  | nil => exact absurd rfl hne
  | cons v ns =>
    obtain ⟨p, p', pv, pos, r, rfl, h4⟩ := supRest_cons hr
    cases ys with
    | nil => cases hl
    | cons y ys =>
      obtain ⟨i, e1, e2⟩ := hz (v, y) (by rw [List.zip_cons_cons]; exact List.mem_cons_self)
      obtain ⟨⟨d1, d2⟩, vv⟩ := hn v List.mem_cons_self
      rw [List.length_cons] at hL
      refine wpAny_execs_cons (thn ((ps_ost (f := v) (p' := p') (pos := pos) (pe_var (i := 0) (pos := p) hself vself) (pe_var (pos := pv) e1 vv d1 d2)).run pins s σ H { D with nx := fun σ' H' => σ' = σ ∧ ∃ dx, H dx = none ∧ dx ≠ a ∧ H' = upd (upd H dx (exd dx [(v, y)])) a (exo a C (some dx)) } I
        ⟨y, e2, .ref a, h0, a, C, rfl, T, hno v List.mem_cons_self, .inl ⟨ea, fun dx h1 h2 => ⟨rfl, dx, h1, h2, rfl⟩⟩⟩) fun f s1 q1 => ?_)
      cases f with
      | next =>
        obtain ⟨σ', H', I', e3, dx, f1, f2, e4⟩ := q1
        subst e3 e4
        refine sup_rest (dx := dx) T hself vself f2 h0 (ns := ns) (rest := r) (ys := ys) (fs := [(v, y)]) h4 (by simpa using hl) (fun n hm => hn n (List.mem_cons_of_mem _ hm)) (fun p hp => hz p (by rw [List.zip_cons_cons]; exact List.mem_cons_of_mem _ hp)) (fun n hm => hno n (List.mem_cons_of_mem _ hm)) upd_same ?_ (by simp only [List.length_cons, List.length_nil]; omega) I' ?_
        · rw [upd_ne f2, upd_same]
        · have eu : upd (upd (upd H dx (exd dx [(v, y)])) a (exo a C (some dx))) dx (exd dx ((ns.zip ys).reverse ++ [(v, y)])) = upd (upd H dx (exd dx ((v :: ns).zip (y :: ys)).reverse)) a (exo a C (some dx)) := by
            funext b
            by_cases hb : b = dx
            · rw [hb, upd_same, upd_ne f2, upd_same, List.zip_cons_cons, List.reverse_cons]
            · rw [upd_ne hb]
              by_cases ha : b = a
              · rw [ha, upd_same, upd_same]
              · rw [upd_ne ha, upd_ne ha, upd_ne hb, upd_ne hb]
          rw [eu]
          exact q dx f1 f2
      | ret w => exact q1
      | brk => exact q1
      | cont => exact q1
end
end G
namespace G
open PySem PySem.Spec PySem.Calls PyProof.Rows L2
/-- the promise of such an __init__ -/
def spS (C : Addr) (ns : List Str) : Sp := fun vs H Q _ => ∃ (a : Addr) (ys : List V), vs = .ref a :: ys ∧ ys.length = ns.length ∧ H a = some (exo a C none) ∧ ∀ dx, H dx = none → dx ≠ a → Q .non (upd (upd H dx (exd dx (ns.zip ys).reverse)) a (exo a C (some dx)))
theorem supNames_ok {ns : List Str} (h : supNames ns = true) : (("self" : Str) :: ns).Nodup ∧ ns ≠ [] ∧ ns.length ≤ 20 ∧ ∀ n ∈ (("self" : Str) :: ns), OkN n := by
  obtain ⟨h1, h⟩ := He.ba h
  obtain ⟨h2, h⟩ := He.ba h
  obtain ⟨h3, h4⟩ := He.ba h
  refine ⟨of_decide_eq_true h1, of_decide_eq_true h2, of_decide_eq_true h3, fun n hn => ?_⟩
  obtain ⟨a, b⟩ := He.ba (List.all_eq_true.mp h4 n hn)
  exact ⟨by simpa using a, by simpa using b⟩
theorem drop_own (C : Addr) (l : List Value) : ((Value.ref C :: l).dropWhile (· != .ref C)).drop 1 = l := by
  simp [List.dropWhile_cons]
theorem sup_fn {CX : CXT} {P : Program} {w : World} {K : PySem.W.Frag} {mg : Str → Option Value} {base : Heap} {C f : Addr} {ns : List Str} {file : Str} {fd : FuncData} {name qual : Str} {params : Arguments} {as : List Expr} {rest : List Stmt} {scope : Scope} {kV doc pm ct : Value} {an : Option Addr} {cda cc : Addr} {p0 p1 p2 p3 p4 : Pos}
    (hP : SupP P file) (Z : SupC K C ns file) (F : SupFd K C f ns file fd name qual params as rest scope kV doc pm ct an cda cc p0 p1 p2 p3 p4) (hms : mg "super" = none) : FnOk P w K mg base CX 1 f fd (("self" : Str) :: ns) (spS C ns) := by
  obtain ⟨rfl, ⟨oc, od, osl, lk⟩, hargs, hline, hrest, hpar, hsc, hcode, hfile, hcell⟩ := F
  have S := supScope_ok hsc
  obtain ⟨nd, hne, hlen, hok⟩ := supNames_ok Z.names
  refine ⟨fun vs H Q E h => ?_, fun A outer s H args us vs Q E hr e0 hb hv hsp => ?_⟩
  · obtain ⟨a, ys, rfl, hl, _⟩ := h
    simp [hl]
  obtain ⟨a, ys, rfl, hl, ea, hQ⟩ := hsp
  have KX : K.In s.heap := e0.mod.kin.keeps fun b o e => (e0.bs b o e).1
  have lim : s.heap.NoLimit := e0.mod.nolimit.keeps fun b o e => (e0.bs b o e).1
  have hcc : base.IsCell cc (some (.ref C)) := by
    unfold cellIn at hcell
    split at hcell
    · rename_i c dd D sl ho
      have z := of_decide_eq_true hcell
      subst z
      exact ⟨_, e0.mod.kin _ _ ho, rfl⟩
    · cases hcell
  obtain ⟨ccl, cdd, fvs, ccs, tf, lkc, hvs⟩ : ∃ ccl cdd fvs ccs tf, K.lookup cda = some ⟨ccl, cdd, .fields fvs, ccs⟩ ∧ fvs[2]? = some (.str file tf) := by
    unfold fileIn at hfile
    split at hfile
    · rename_i c1 d1 fvs s1 ho
      split at hfile
      · rename_i fl tf hv2
        have z := of_decide_eq_true hfile
        subst z
        exact ⟨_, _, _, _, _, ho, hv2⟩
      · cases hfile
    · cases hfile
  refine PySem.ks_codeAny_call_defAt (fd := PySem.W.ksFn name qual params (.Expr (.Call (.Attribute (.Call (.Name "super" p0) [] [] p1) "__init__" p2) as [] p3) p4 :: rest) scope .none kV doc pm an (.ref cda) ct cc) (binds := (("self" : Str) :: ns).zip us) hr.depth (KX _ _ lk) rfl lim (PySem.W.codeRec_of KX hcode) rfl hb S.nocell
    (fun p hp => S.loc _ (List.of_mem_zip hp).1) (fun h₁ hns kp => ?_) S.co S.gen S.kind
  have I : Inv (cxS CX P w K mg base (("self" : Str) :: ns) qual scope f cda cc A outer s H E) [] ((V.ref a :: ys).map some) H { s with heap := h₁, toks := s.toks + ((("self" : Str) :: ns).zip us).length } :=
    sup_start S nd hr.hd e0 hcc (by simp [hl]) hv hns kp
  have hself : (cxS CX P w K mg base (("self" : Str) :: ns) qual scope f cda cc A outer s H E).N[0]? = some ("self" : Str) := rfl
  have vself : Vis scope "self" := .inl (S.loc _ List.mem_cons_self)
  have hn : ∀ n ∈ ns, OkN n ∧ Vis scope n := fun n hm => ⟨hok n (List.mem_cons_of_mem _ hm), .inl (S.loc _ (List.mem_cons_of_mem _ hm))⟩
  have hz : ∀ p ∈ ns.zip ys, ∃ i : Nat, (("self" : Str) :: ns)[i]? = some p.1 ∧ ((V.ref a :: ys).map some)[i]? = some (some p.2) := fun p hp => by
    obtain ⟨i, hi⟩ := List.mem_iff_getElem?.mp hp
    obtain ⟨i1, i2⟩ := List.getElem?_zip_eq_some.mp hi
    exact ⟨i + 1, by simpa using i1, by simpa using i2⟩
  have hno : ∀ n ∈ ns, PySem.W.findIn K (.ref C) n = some none := Z.no
  refine PySem.ks_wpAt_mono (Q := SP (cxS CX P w K mg base (("self" : Str) :: ns) qual scope f cda cc A outer s H E) [] { nx := fun _ H' => Q .non H', rt := Q }) (E := (cxS CX P w K mg base (("self" : Str) :: ns) qual scope f cda cc A outer s H E).xe) ?_ (fun fl s' hs => ?_) (fun _ _ h => h)
  · obtain ⟨hpa, hany⟩ := sup_pa (X := cxS CX P w K mg base (("self" : Str) :: ns) qual scope f cda cc A outer s H E) (σ := (V.ref a :: ys).map some) hargs hl hn hz
    show PySem.wpAt (model P w) (A.deeper (PySem.W.ksEnv qual scope s.heap.objs.size f (.ref cda) cc)) (.func _ (PySem.W.ksEnv qual scope s.heap.objs.size f (.ref cda) cc)) (execs _ (PySem.W.ksEnv qual scope s.heap.objs.size f (.ref cda) cc)) _ _ _
    refine PySem.ks_wpAt_execs_cons (PySem.ks_wpAt_Expr_any (PySem.ks_wpAt_MethodCall ?_ (sup_eval hline (hany p3) (by rw [supArgs_len hargs]; omega))) (by
      show ((scope.kind == .module) && _) = false
      rw [S.kind]
      rfl))
    obtain ⟨e0', as', has, he⟩ : ∃ e0' as', as = e0' :: as' ∧ starEach (e0' :: as') (PySem.W.ksEnv qual scope s.heap.objs.size f (.ref cda) cc) = (false, eval e0' (PySem.W.ksEnv qual scope s.heap.objs.size f (.ref cda) cc)) :: starEach as' (PySem.W.ksEnv qual scope s.heap.objs.size f (.ref cda) cc) := by
      cases ns with
      | nil => exact absurd rfl hne
      | cons n ns' =>
        obtain ⟨pn, r, e, _⟩ := supArgs_cons hargs
        exact ⟨_, _, e, rfl⟩
    generalize hs1 : ({ s with heap := h₁, toks := s.toks + ((("self" : Str) :: ns).zip us).length } : Shared) = s1 at I ⊢
    clear hs1 hns kp
    obtain ⟨params1, hp1⟩ : ∃ ar : Arg, (params.posonlyargs ++ params.args).head? = some ar ∧ ar.arg = "self" := by
      unfold supPar at hpar
      split at hpar
      · rename_i as'
        have z := of_decide_eq_true hpar
        match as', z with
        | ar :: _, z => exact ⟨ar, rfl, (List.cons.inj z).1⟩
      · cases hpar
    obtain ⟨hp1, hself1⟩ := hp1
    obtain ⟨mb, hb1, hb2⟩ := I.mod.blt
    refine PySem.ks_wpAt_super_base (env := PySem.W.ksEnv qual scope s.heap.objs.size f (.ref cda) cc) S.sup S.cls (by decide) rfl (I.kIn _ _ lk) rfl hp1 rfl (I.kIn _ _ lkc) rfl hvs hP.ok.1 hP.ok.2 ?_
    refine PySem.W.ks_loadName_global S.kind S.sup (PySem.Calls.loadGlobal_builtin (env := PySem.W.ksEnv qual scope s.heap.objs.size f (.ref cda) cc) (I.mod.glob.keeps I.bk) hms (hb1.keeps I.bk) ((hb2 _ (by decide)).trans (by rfl)) ⟨rfl, ?_⟩)
    refine PySem.wpAny_loadName_free S.kind S.cls rfl (v := .ref C) ?_ ?_
    · obtain ⟨o, ho, hd⟩ := hcc
      exact ⟨o, I.bk _ _ ho, hd⟩
    obtain ⟨m, hm, hlo⟩ := I.loc
    obtain ⟨u0, ru, hlk⟩ := hlo 0 "self" (.ref a) rfl rfl vself
    obtain rfl : u0 = Value.ref a := ru
    have hm0 : m "self" = some (.ref a) := by
      rcases hlk with ⟨_, h⟩ | ⟨h, _⟩
      · exact h
      · have q := S.loc "self" List.mem_cons_self
        rcases h with h | h <;> rw [show scope.names.lookup ("self" : Str) = _ from h] at q <;> cases q
    rw [hself1]
    refine PySem.wpAny_loadName_local S.kind (S.loc _ List.mem_cons_self) hm hm0 ?_
    obtain ⟨nm, qn, N, bs, bm, sn, sub, ab, col, dd, k0, k1, k2, k3, k5, hC, hbm, hal⟩ := oexB_ok Z.raw
    refine PySem.ks_wpAny_isType_cls (I.kIn _ _ hC) rfl ⟨rfl, ?_⟩
    obtain ⟨t1, ho⟩ := exo_at I.hok ea
    obtain ⟨hp, g, d, t, os⟩ := s1
    refine PySem.ks_wpAny_call_super (I.kIn _ _ hC) rfl ho rfl (fun c z => by cases z) (PySem.W.looks_subIn I.kIn Z.own) (fun h' hso k => ?_)
    have I1 := I.kept (t' := t) k
    have hxC : a ≠ C := fun z => by
      have y := I.kIn _ _ hC
      rw [← z, ho] at y
      cases y
    have hcl : PySem.W.clsIn K C = some { name := nm, bases := bs, mro := .ref C :: bm, ns := N, qualname := qn, hasDict := true, slotNames := sn, subclasses := sub, abstract := ab, collection := col, hasDel := false } := by
      unfold PySem.W.clsIn
      rw [hC] <;> rfl
    have hI : PySem.W.Looks (model P w) h' (isInstance (.ref a) (.type "ValueError")) true := by
      have J : PySem.W.InstAt h' a { cls := .ref C, dict := none, data := .fields #[.ref t1, .none, .none, .none, .bool false, .none] } C none := ⟨k _ _ ho, rfl, rfl, trivial⟩
      exact J.type.andThen (PySem.W.looks_subIn I1.kIn Z.ve)
    refine PySem.W.kxs_getMethod PySem.W.kxs_ValueError hso (PySem.W.looks_opaque I1.kIn Z.st) (l₀ := .ref C :: bm) (l := bm) (fun A Q E s k q => wpAny_bind ((PySem.W.looks_clsIn I1.kIn hcl) A _ E s k (wpAny_pure q))) (drop_own C bm) I1.kIn hal hI hxC (by decide) ?_
    have I2 := I1.kept (t' := t + 1) (h' := h'.push (PySem.W.kxs_mw "ValueError.__init__" a)) (fun b o e => Heap.get?_push_of_some _ e)
    have I3 : Inv (cxS CX P w K mg base (("self" : Str) :: ns) qual scope f cda cc A outer s H E) [(h'.objs.size, PySem.W.kxs_mw "ValueError.__init__" a)] ((V.ref a :: ys).map some) H ⟨h'.push (PySem.W.kxs_mw "ValueError.__init__" a), g, d, t + 1, os⟩ := I2.pins_of fun p hp => by
      rw [List.mem_singleton] at hp
      subst hp
      refine ⟨Heap.get?_push_size _ rfl, I1.hok.fresh (Nat.le_refl _), fun z => ?_, I1.nofs (Nat.le_refl _), fun v z => by cases z⟩
      have y := I1.lt
      rw [← z] at y
      exact Nat.lt_irrefl _ y
    rw [has] at hargs hpa hany ⊢
    refine PySem.W.kxs_callWith (i := "ValueError.__init__") (x := a) (hany p3) ?_
    have hq := hpa.run p3 _ _ _ H (fun vs2 H2 => vs2 = ys ∧ H2 = H) I3 ⟨rfl, rfl, rfl⟩
    rw [show starEach (e0' :: as') (cxS CX P w K mg base (("self" : Str) :: ns) qual scope f cda cc A outer s H E).env = _ from he] at hq
    rw [he]
    refine evalArgs_plain (wpAny_mono hq (fun us2 s3 ⟨vs2, H2, I4, rv, e5, e6⟩ => ?_) fun _ _ z => z)
    subst e5 e6
    obtain ⟨hu, _⟩ := I4.pin (h'.objs.size, PySem.W.kxs_mw "ValueError.__init__" a) (List.mem_append_right _ List.mem_cons_self)
    refine ⟨hu, ?_⟩
    refine sup_call Z.oex I4 ea hu (by
      show us2.length ≤ sizeLine
      rw [← rv.length, hl, sizeLine_eq]
      omega) fun s4 I5 => ?_
    refine PySem.wpAt_of_wpAny ?_
    have I6 : Inv (cxS CX P w K mg base (("self" : Str) :: ns) qual scope f cda cc A outer s H2 E) [] ((V.ref a :: vs2).map some) H2 s4 := I5.pins_of fun p hp => by cases hp
    exact sup_first (X := cxS CX P w K mg base (("self" : Str) :: ns) qual scope f cda cc A outer s H2 E) Z.oex hself vself hrest hne hl hn hz hno rfl ea hlen I6 fun dx h1 h2 => hQ dx h1 h2
  · have fin : ∀ {σ' : L2.St} {H' : Hp} {v : V} {u : Value}, Inv (cxS CX P w K mg base (("self" : Str) :: ns) qual scope f cda cc A outer s H E) [] σ' H' s' → L2.RelV v u → Q v H' → CE outer P w H s Q u s' :=
      fun {σ' H' v u} J rv q => ⟨v, H', J.os, J.bare, J.base, J.hok, rv, q⟩
    cases fl with
    | ret u =>
      obtain ⟨v, σ', H', J, rv, q⟩ := hs
      exact fin J rv q
    | next =>
      obtain ⟨σ', H', J, q⟩ := hs
      exact fin (v := V.non) (u := Value.none) J rfl q
    | brk =>
      obtain ⟨_, _, _, q⟩ := hs
      exact False.elim q
    | cont =>
      obtain ⟨_, _, _, q⟩ := hs
      exact False.elim q
end G
namespace G
open PySem PySem.Spec PySem.Calls PyProof.Rows L2
theorem zip_lookup : ∀ {ps : List Str} {us : List Value} {n : Str}, us.length = ps.length → n ∈ ps → ((ps.zip us).lookup n).isNone = false
  | [], _, _, _, h => by cases h
  | p :: ps, [], _, h, _ => by cases h
  | p :: ps, u :: us, n, h, hm => by
    rw [List.zip_cons_cons]
    by_cases e : n = p
    · subst e
      simp [List.lookup]
    · have hb : (n == p) = false := by simpa using e
      simp only [List.lookup, hb]
      exact zip_lookup (by simpa using h) ((List.mem_cons.mp hm).resolve_left e)
theorem fm_congr {α β : Type} {f g : α → Option β} : ∀ {l : List α}, (∀ a ∈ l, f a = g a) → l.filterMap f = l.filterMap g
  | [], _ => rfl
  | a :: l, h => by
    rw [List.filterMap_cons, List.filterMap_cons, h a List.mem_cons_self, fm_congr fun b hb => h b (List.mem_cons_of_mem _ hb)]
theorem zip_fm : ∀ {ps : List Str} {us : List Value}, ps.Nodup → us.length = ps.length → ps.filterMap (fun n => Option.map (fun x => (n, x)) (List.lookup n (ps.zip us))) = ps.zip us
  | [], _, _, _ => rfl
  | p :: ps, [], _, h => by cases h
  | p :: ps, u :: us, nd, h => by
    rw [List.nodup_cons] at nd
    rw [List.zip_cons_cons, List.filterMap_cons]
    have e1 : List.lookup p ((p, u) :: ps.zip us) = some u := by simp [List.lookup]
    rw [e1]
    show (p, u) :: _ = _
    congr 1
    refine (fm_congr fun n hn => ?_).trans (zip_fm nd.2 (by simpa using h))
    have hb : (n == p) = false := by
      have z : n ≠ p := fun e => nd.1 (e ▸ hn)
      simpa using z
    simp only [List.lookup, hb]
theorem sup_binds {ns : List Str} {name qual : Str} {params : Arguments} {body : List Stmt} {scope : Scope} {kV doc pm cdv ct : Value} {an : Option Addr} {cc : Addr} (nd : (("self" : Str) :: ns).Nodup) (hp : supPar ns params = true) (us : List Value) (hl : us.length = (("self" : Str) :: ns).length) :
    bindArgs (PySem.W.ksFn name qual params body scope .none kV doc pm an cdv ct cc) ⟨us, []⟩ = pure ((("self" : Str) :: ns).zip us) := by
  unfold supPar at hp
  split at hp
  · rename_i as
    have e := of_decide_eq_true hp
    have hlen : as.length = us.length := by rw [hl, ← e, List.length_map]
    have hf : (as.map (·.arg)).filter (fun n => (((as.map (·.arg)).zip us).lookup n).isNone) = [] := by
      rw [List.filter_eq_nil_iff]
      intro n hn
      rw [zip_lookup (by rw [List.length_map, hlen]) hn]
      exact Bool.false_ne_true
    rw [← e]
    unfold bindArgs
    have ht : List.take us.length (as.map (·.arg)) = as.map (·.arg) := List.take_of_length_le (by rw [List.length_map, hlen]; exact Nat.le_refl _)
    have nd' : (as.map (·.arg)).Nodup := e ▸ nd
    have hz := zip_fm (us := us) nd' (by rw [List.length_map, hlen])
    simp [seqItems?, hlen, notAStandIn, ht, hf]
    rw [← List.filterMap_map, hz]
  · cases hp
/-- an argument list, its wish made weaker -/
def taM (ta : TA) : TA := fun σ H Q => ∃ R : List V → Hp → Prop, ta σ H R ∧ ∀ vs H1, R vs H1 → Q vs H1
theorem pa_M {X : Cx} {es : List Expr} {ta : TA} (h : PA X es ta) : PA X es (taM ta) := ⟨fun pos pins s σ H Q I ⟨R, h1, h2⟩ => wpAny_mono (h.run pos pins s σ H R I h1) (fun us s' ⟨vs, H', I', r, q⟩ => ⟨vs, H', I', r, h2 _ _ q⟩) fun _ _ z => z⟩
/-- C(e, ..), made to be raised -/
def tMkS (C : Addr) (ns : List Str) (ta : TA) : L2.St → Hp → XK → Prop := fun σ H Q => ta σ H fun vs H1 => vs.length = ns.length ∧ ∀ d, H1 d = none → Q (.ref C) (some d) (upd H1 d (.xd (ns.zip vs).reverse))
theorem pmk_sup {X : Cx} {x : Str} {C : Addr} {ns : List Str} {file : Str} {ta : TA} {e : Expr} {es : List Expr} {p pos : Pos} (hP : SupP X.prog file) (Z : SupC X.K C ns file) (hms : X.mg "super" = none) (hr : Room 2 X.A) (hg : Gl X x) (hm : X.mg x = some (.ref C)) (ha : PA X (e :: es) ta)
    (hdb : (x == ("__debug__" : Str)) = false := by decide) (he : starEach (e :: es) X.env = (false, eval e X.env) :: starEach es X.env := by rfl) (hpl : (backTo pos (starEach es X.env)).any (·.1) = false := by rfl) :
    PMk X (.Call (.Name x p) (e :: es) [] pos) (tMkS C ns ta) := by
  obtain ⟨f, fd, iC, tI, name, qual, params, as, rest, scope, kV, doc, pm, ct, an, cda, cc, p0, p1, p2, p3, p4, F⟩ := Z.fn
  have FO : FnOk X.prog X.w X.K X.mg X.base CX0 1 f fd (("self" : Str) :: ns) (spS C ns) := sup_fn hP Z F hms
  obtain ⟨nd, hne, hlen, hok⟩ := supNames_ok Z.names
  have hb : L2.Binds X.K fd (("self" : Str) :: ns) [] := by
    rw [F.eq]
    exact Binds.all fun us hl => sup_binds nd F.par us hl
  intro pins s σ H Q I h
  refine pmk_oex (dvs := []) (ta := taM ta) Z.oex iC tI FO hr hb .nil pass0 hg hm (pa_M ha) hdb he hpl pins s σ H Q I ?_
  refine ⟨_, h, fun vs H1 ⟨hl, hq⟩ => ⟨by rw [hl]; omega, fun a hn => ?_⟩⟩
  rw [List.append_nil]
  refine ⟨a, vs, rfl, hl, upd_same, fun dx hd hda => ⟨rfl, dx, (ns.zip vs).reverse, upd_same, ?_, ?_, ?_⟩⟩
  · rw [upd_ne hda, upd_same]
  · rw [upd_ne hda] at hd
    exact hd
  · rw [upd_ne hda] at hd
    have eu : upd (del (upd (upd (upd H1 a (exo a C none)) dx (exd dx (ns.zip vs).reverse)) a (exo a C (some dx))) a) dx (.xd (ns.zip vs).reverse) = upd H1 dx (.xd (ns.zip vs).reverse) := by
      funext b
      by_cases hb : b = dx
      · rw [hb, upd_same, upd_same]
      · rw [upd_ne hb, upd_ne hb]
        by_cases ha : b = a
        · rw [ha, del_same, hn]
        · rw [del_ne ha, upd_ne ha, upd_ne hb, upd_ne ha]
    rw [eu]
    exact hq dx hd
/-- raise C(e, ..) -/
theorem ps_raiseS {X : Cx} {W : WX} {x : Str} {C : Addr} {ns : List Str} {file : Str} {ta : TA} {e : Expr} {es : List Expr} {p pos pos' : Pos} (hc : X.calm = true) (tk : Takes X W) (hP : SupP X.prog file) (Z : SupC X.K C ns file) (hms : X.mg "super" = none) (hr : Room 2 X.A) (hg : Gl X x) (hm : X.mg x = some (.ref C)) (ha : PA X (e :: es) ta)
    (hdb : (x == ("__debug__" : Str)) = false := by decide) (he : starEach (e :: es) X.env = (false, eval e X.env) :: starEach es X.env := by rfl) (hpl : (backTo pos (starEach es X.env)).any (·.1) = false := by rfl) :
    PS X (.Raise (some (.Call (.Name x p) (e :: es) [] pos)) none pos') (fun _ σ H => tMkS C ns ta σ H fun cls d H' => W cls d σ H') := ps_raise hc tk (pmk_sup hP Z hms hr hg hm ha hdb he hpl)
end G
namespace G
open PySem PySem.Spec PySem.Calls PyProof.Rows L2
/-! ### stepping: raise C(e, ..), error.f; static methods and classes by keywords; bool(o); [..] * n; texts -/
section
variable {σ : L2.St} {H : Hp} {Q : VK} {QX : XK} {C a dd l : Addr} {ns : List Str} {ta : TA} {te : TE} {n m f : Str} {v u : V} {cls : Value} {d : Option Addr} {fs : List (Str × V)} {xs ys : List V} {k : Int}
def MkSK (C : Addr) (ns : List Str) (Q : XK) : List V → Hp → Prop := fun vs H1 => vs.length = ns.length ∧ ∀ d, H1 d = none → Q (.ref C) (some d) (upd H1 d (.xd (ns.zip vs).reverse))
theorem st_mkS (q : ta σ H fun vs H1 => MkSK C ns QX vs H1) : tMkS C ns ta σ H QX := q
theorem mkS1 (z : ∀ d H2, H d = none → Kp H H2 → H2 d = some (.xd [(n, v)]) → QX (.ref C) (some d) H2) : MkSK C [n] QX [v] H := ⟨rfl, fun d hd => z d _ hd (Kp.new hd) upd_same⟩
theorem mkS2 (z : ∀ d H2, H d = none → Kp H H2 → H2 d = some (.xd [(m, u), (n, v)]) → QX (.ref C) (some d) H2) : MkSK C [n, m] QX [v, u] H := ⟨rfl, fun d hd => z d _ hd (Kp.new hd) upd_same⟩
def XfK (a : Addr) (cls : Value) (d : Option Addr) (C : Addr) (f : Str) (Q : VK) : V → Hp → Prop := fun x H1 => x = .ref a ∧ cls = .ref C ∧ ∃ (dd : Addr) (fs : List (Str × V)) (v : V), d = some dd ∧ H1 dd = some (.xd fs) ∧ fs.lookup f = some v ∧ Q v H1
theorem st_xf (q : te σ H fun x H1 => XfK a cls d C f Q x H1) : tXf a cls d C f te σ H Q := q
theorem xfK (e : H dd = some (.xd fs)) (l : fs.lookup f = some v) (q : Q v H) : XfK a (.ref C) (some dd) C f Q (.ref a) H := ⟨rfl, rfl, dd, fs, v, rfl, e, l, q⟩
theorem rep_l (h : H l = some (.lst xs)) (h1 : 0 ≤ k ∧ k < 1000) (h2 : xs.length ≤ 1000) (e : (List.replicate k.toNat xs).flatten = ys) (q : ∀ p H', H p = none → Kp H H' → H' p = some (.lst ys) → Q (.ref p) H') : rRep (.ref l) (.int k) H Q :=
  ⟨l, k, xs, rfl, rfl, h, by omega, by omega, by
    have h3 : k.toNat ≤ 1000 := by omega
    have := Nat.mul_le_mul h2 h3
    rw [sizeLine_eq]
    omega, fun p hp => by
    rw [e]
    exact q p _ hp (Kp.new hp) upd_same⟩
end
section
variable {X : Cx} {CX : CXT} {k n : Nat} {C p g f : Addr} {mc : Value} {sp : Sp} {E : XK} {o e : Expr} {es : List Expr} {x m : Str} {pos apos pp : Pos} {ta : TE} {t tk : TA} {pl : Sem Bool} {fd : FuncData} {ps ks : List Str} {dvs : List V} {ds : List Value} {kws : List Keyword}
/-- C.m(k = v, ..), m a static method -/
def tSMK (C : Addr) (sp : Sp) (gV : List V → List V) (E : XK) (ta : TE) (tk : TA) : TE := fun σ H Q => ta σ H fun x H1 => x = .ref C ∧ tk σ H1 fun zs H2 => sp (gV zs) H2 Q E
theorem pe_smethK {gg : List Value → List Value} {gV : List V → List V} (he : PE X o ta) (r : ClX.CRead X.K C mc) (c : SMet X.K C mc m g) (F : FnG X.prog X.w X.K X.mg X.base CX k g fd ps sp) (hr : RoomG k X.A) (hb : KB0 X.K fd 0 ps ks gg gV) (hx : Passes CX X E) (hkw : PK X kws tk)
    (hall : (backToKw pos (keywordEach kws X.env)).all (·.1.isSome) = true := by rfl) (hks : (backToKw pos (keywordEach kws X.env)).filterMap (·.1) = ks := by rfl)
    (hpl : ((backTo pos (starEach [] X.env)).any (·.1) || (backToKw pos (keywordEach kws X.env)).any (·.1.isNone)) = false := by rfl)
    (ht : eval (.Call (.Attribute o m apos) [] kws pos) X.env = (do
      let ov ← eval o X.env
      standAt apos.atName
      let (f, first) ← holding [ov] (getMethod ov m pl)
      callWith pos f first (backTo pos (starEach [] X.env)) (backToKw pos (keywordEach kws X.env))) := by rfl) :
    PE X (.Call (.Attribute o m apos) [] kws pos) (tSMK C sp gV E ta tk) := by
  refine ⟨fun pins s σ H Q I h => ?_⟩
  refine PySem.W.methodCall_KW (pl := pl) (thn (he.run pins s σ H _ I h) fun u s1 ⟨x, H1, I1, rx, ex, q⟩ => ?_) ht
  subst ex
  obtain rfl : u = Value.ref C := rx
  obtain ⟨p, rest, h1, h2⟩ := c.ex
  refine PySem.W.method_cls I1.kIn r.ga (PySem.W.cls_bind I1.kIn r.rd h1 (wpAny_call (PySem.W.sm_get (s := { s1 with toks := s1.toks + 1 }) I1.kIn h2 (PySem.W.handed_on rfl ?_))))
  have I2 := I1.tok (s1.toks + 1)
  refine PySem.W.callWith_KW0 (first := []) (h₀ := X.base) I2.ok.mod.kin c.kp hall (thn (hkw.run pos pins _ σ H1 _ I2 q) fun ws s2 ⟨zs, H2, I3, rz, q2⟩ => ⟨I3.kIn, ?_⟩) hpl
  rw [hks]
  exact run_kb0 (us := []) (vs := []) F hr hb hx I3 rfl .nil rz q2
/-- C(k = v, ..) -/
def tMakeKG (C : Addr) (m : Nat) (sp : Sp) (gV : List V → List V → List V) (E : XK) (tk : TA) : TE := fun σ H Q => tk σ H fun zs H2 => zs.length = m ∧ ∀ x dx, H2 x = none → H2 dx = none → dx ≠ x →
  sp (gV [.ref x] zs) (upd (upd H2 dx (.own x)) x (.ins C dx [])) (fun v H3 => v = .non ∧ Q (.ref x) H3) E
theorem pe_makeKG {gg : List Value → List Value → List Value} {gV : List V → List V → List V} (M : Mk X.K C f) (F : FnG X.prog X.w X.K X.mg X.base CX k f fd ps sp) (hr : RoomG (k + 1) X.A) (hg : Gl X x) (hm : X.mg x = some (.ref C)) (hb : KBn X.K fd ps 1 ks gg gV) (hx : Passes CX X E) (hkw : PK X kws tk)
    (hall : (backToKw pos (keywordEach kws X.env)).all (·.1.isSome) = true := by rfl) (hks : (backToKw pos (keywordEach kws X.env)).filterMap (·.1) = ks := by rfl) (hdb : (x == ("__debug__" : Str)) = false := by decide)
    (hpl : ((backTo pos (starEach [] X.env)).any (·.1) || (backToKw pos (keywordEach kws X.env)).any (·.1.isNone)) = false := by rfl) :
    PE X (.Call (.Name x pp) [] kws pos) (tMakeKG C ks.length sp gV E tk) := by
  refine ⟨fun pins s σ H Q I h => ?_⟩
  refine wpAny_Call_Name_kw (ld_glob I hg hm ?_ hdb)
  refine PySem.W.callWith_KW0 (h₀ := X.base) I.ok.mod.kin M.kp hall ?_ hpl
  refine thn (hkw.run pos pins s σ H _ I h) fun ws s2 ⟨zs, H2, I2, rz, l2, q2⟩ => ⟨I2.kIn, ?_⟩
  rw [hks]
  have hq := q2 (s2.heap.objs.size + 1) s2.heap.objs.size (I2.hok.fresh (Nat.le_add_right _ 1)) (I2.hok.fresh (Nat.le_refl _)) (Nat.ne_of_lt (Nat.lt_add_one _))
  have J := Inv.made (C := C) I2
  have rv : Vals [V.ref (s2.heap.objs.size + 1)] [Value.ref (s2.heap.objs.size + 1)] := .cons rfl .nil
  have run := run_at F (hr.make C [] (ks.zip ws)) (J.env0.make C [] (ks.zip ws)) hx J (hb.to _ [Value.ref (s2.heap.objs.size + 1)] ws J.kIn rfl (rz.length.symm.trans l2)) (hb.rel rv rz) hq
  refine wpAny_call (make_map (f := f) I2.kIn M.makes M.init (beq_iff_eq.mp M.fn) (codeAny_mono run fun r s' z => ?_))
  match r, z with
  | .error _, z => exact z
  | .ok (.ret u), ⟨v, H', J', rn, ev, q⟩ =>
    subst ev
    exact ⟨rn, V.ref (s2.heap.objs.size + 1), H', J', rfl, q⟩
end
/-! lists of truths as a text; lists of texts -/
section
variable {KF : PySem.W.Frag} {H : Hp} {Q : VK} {a d : Addr} {b0 b1 b2 b3 : Bool}
theorem repr_l3 (h : SqL KF H a [.bl b0, .bl b1, .bl b2]) (q : Q (.str (PyData.shown (.list [.bool b0, .bool b1, .bool b2]))) H) : rReprG KF [.ref a] H Q :=
  ⟨.ref a, .list [.bool b0, .bool b1, .bool b2], rfl, .lst h (.cons (.bl _) (.cons (.bl _) (.cons (.bl _) .nil))), by simp [PyData.showable, PyData.showableAll], by rfl, by
    have h0 := shown_b b0
    have h1 := shown_b b1
    have h2 := shown_b b2
    have e : PyData.shown (.list [.bool b0, .bool b1, .bool b2]) = ("[" : Str) ++ (PyData.shown (.bool b0) ++ (", " : Str) ++ (PyData.shown (.bool b1) ++ (", " : Str) ++ PyData.shown (.bool b2))) ++ ("]" : Str) := by
      simp only [PyData.shown_list, PyData.shownAll_cons, PyData.shownAll_nil]
      rfl
    rw [e, sizeLine_eq]
    simp only [strLen_append]
    have : ("[" : Str).length = 1 := by decide
    have : (", " : Str).length = 2 := by decide
    have : ("]" : Str).length = 1 := by decide
    omega, by simp [PyData.depth, PyData.depthAll], q⟩
theorem repr_l4 (h : SqL KF H a [.bl b0, .bl b1, .bl b2, .bl b3]) (q : Q (.str (PyData.shown (.list [.bool b0, .bool b1, .bool b2, .bool b3]))) H) : rReprG KF [.ref a] H Q :=
  ⟨.ref a, .list [.bool b0, .bool b1, .bool b2, .bool b3], rfl, .lst h (.cons (.bl _) (.cons (.bl _) (.cons (.bl _) (.cons (.bl _) .nil)))), by simp [PyData.showable, PyData.showableAll], by rfl, by
    have h0 := shown_b b0
    have h1 := shown_b b1
    have h2 := shown_b b2
    have h3 := shown_b b3
    have e : PyData.shown (.list [.bool b0, .bool b1, .bool b2, .bool b3]) = ("[" : Str) ++ (PyData.shown (.bool b0) ++ (", " : Str) ++ (PyData.shown (.bool b1) ++ (", " : Str) ++ (PyData.shown (.bool b2) ++ (", " : Str) ++ PyData.shown (.bool b3)))) ++ ("]" : Str) := by
      simp only [PyData.shown_list, PyData.shownAll_cons, PyData.shownAll_nil]
      rfl
    rw [e, sizeLine_eq]
    simp only [strLen_append]
    have : ("[" : Str).length = 1 := by decide
    have : (", " : Str).length = 2 := by decide
    have : ("]" : Str).length = 1 := by decide
    omega, by simp [PyData.depth, PyData.depthAll], q⟩
theorem repr_l2 (h : SqL KF H a [.bl b0, .bl b1]) (q : Q (.str (PyData.shown (.list [.bool b0, .bool b1]))) H) : rReprG KF [.ref a] H Q :=
  ⟨.ref a, .list [.bool b0, .bool b1], rfl, .lst h (.cons (.bl _) (.cons (.bl _) .nil)), by simp [PyData.showable, PyData.showableAll], by rfl, by
    have h0 := shown_b b0
    have h1 := shown_b b1
    have e : PyData.shown (.list [.bool b0, .bool b1]) = ("[" : Str) ++ (PyData.shown (.bool b0) ++ (", " : Str) ++ PyData.shown (.bool b1)) ++ ("]" : Str) := by
      simp only [PyData.shown_list, PyData.shownAll_cons, PyData.shownAll_nil]
      rfl
    rw [e, sizeLine_eq]
    simp only [strLen_append]
    have : ("[" : Str).length = 1 := by decide
    have : (", " : Str).length = 2 := by decide
    have : ("]" : Str).length = 1 := by decide
    omega, by simp [PyData.depth, PyData.depthAll], q⟩
theorem strOk_of (s : String) : PyData.strOk (Str.ofString s) = true := by
  rw [Str.ofString_eq_toList]
  unfold PyData.strOk
  simp only [Array.all_eq_true_iff_forall_mem, decide_eq_true_eq]
  intro c hc
  rw [List.mem_toArray, List.mem_map] at hc
  obtain ⟨x, _, rfl⟩ := hc
  have h : x.toNat < 0xd800 ∨ (0xdfff < x.toNat ∧ x.toNat < 0x110000) := x.valid
  rcases h with h | h
  · omega
  · exact h.2
theorem strOk_app (s t : Str) (h1 : PyData.strOk s = true) (h2 : PyData.strOk t = true) : PyData.strOk (s ++ t) = true := by
  unfold PyData.strOk at *
  have e : (s ++ t).cps = s.cps ++ t.cps := rfl
  rw [e, Array.all_append, h1, h2]
  rfl
theorem strOk_t2 (i j : Int) : PyData.strOk (PyData.shown (.tuple [.int i, .int j])) = true := by
  have e : PyData.shown (.tuple [.int i, .int j]) = ("(" : Str) ++ (PyData.shown (.int i) ++ (", " : Str) ++ PyData.shown (.int j)) ++ (")" : Str) := by
    simp only [PyData.shown_tuple, PyData.shownAll_cons, PyData.shownAll_nil]
    rfl
  rw [e]
  exact strOk_app _ _ (strOk_app _ _ (by decide +kernel) (strOk_app _ _ (strOk_app _ _ (by rw [PyData.shown_int]; exact strOk_of _) (by decide +kernel)) (by rw [PyData.shown_int]; exact strOk_of _))) (by decide +kernel)
end
end G

namespace G
open PySem PySem.Spec PySem.Calls PyProof.Rows L2
instance {CX : CXT} {P : Program} {w : World} {K : PySem.W.Frag} {mg : Str → Option Value} {base : Heap} {N : List Str} {qual : Str} {scope : Scope} {f : Addr} {cd : Value} {A : Around} {outer : List Env} {s : Shared} {H : Hp} {E : XK} {file : Str} [h : SupP P file] : SupP (cxOf CX P w K mg base N qual scope f cd A outer s H E).prog file := h
instance {X : Cx} {A : Around} {outer : List Env} {s : Shared} {H : Hp} {E : XK} {scope : Scope} {f c' : Addr} {file : Str} [h : SupP X.prog file] : SupP (LamX.lamCx X A outer s H E scope f c').prog file := h
instance {X : Cx} {pn : List (Addr × Obj)} {xe : Value → Shared → Prop} {file : Str} [h : SupP X.prog file] : SupP (X.tr pn xe).prog file := h
end G
namespace G
open PySem PySem.Spec PyProof.Rows L2
/-! ### lists and tuples alike -/
def SqX (H : Hp) (a : Addr) (xs : List V) : Prop := H a = some (.lst xs) ∨ H a = some (.tup xs)
section
variable {K : PySem.W.Frag} {H H' H1 : Hp} {Q : VK} {σ : L2.St} {a p : Addr} {xs zs : List V} {n : L2.St → Hp → Prop} {r : VK} {b c : L2.St → Hp → Prop} {ts : TS} {tt : TT} {te : TE} {vs : List Nat} {σ0 : L2.St}
theorem SqX.kp (k : Kp H H') (h : SqX H a xs) : SqX H' a xs := h.elim (fun e => .inl (k _ _ e)) fun e => .inr (k _ _ e)
/-- the walk over it -/
def ItX (K : PySem.W.Frag) (H : Hp) (a : Addr) (xs : List V) (J : It) : Prop := (J = Itl K a ∧ H a = some (.lst xs)) ∨ (J = Itt K a ∧ H a = some (.tup xs))
def iVarX (K : PySem.W.Frag) (i : Nat) : TI := fun σ H R => iList K (tVar i) σ H R ∨ iTup K (tVar i) σ H R
theorem pi_varX {X : Cx} {tg l : Expr} {i : Nat} (hl : PE X l (tVar i)) : PI X tg l (iVarX X.K i) := ⟨fun pins s σ H R I h => h.elim ((pi_list hl).run pins s σ H R I) ((pi_tup hl).run pins s σ H R I)⟩
theorem st_varX {i : Nat} {R : It → Hp → Prop} (hv : σ[i]? = some (some (.ref a))) (h : SqX H a xs) (q : ∀ J, ItX K H a xs J → R J H) : iVarX K i σ H R := by
  rcases h with h | h
  · exact .inl ⟨_, hv, a, rfl, ⟨xs, .of h⟩, q _ (.inl ⟨rfl, h⟩)⟩
  · exact .inr ⟨_, hv, a, rfl, ⟨xs, .of h⟩, q _ (.inr ⟨rfl, h⟩)⟩
theorem for_seq {J : It} {g : TG} (hJ : ItX K H a xs J) (Pv : Nat → L2.St → Hp → Prop) (h0 : Pv 0 σ H) (hk : ∀ i σ H', Pv i σ H' → Kp H H')
    (hs : ∀ i x σ H, xs[i]? = some x → Pv i σ H → g x σ H fun σ2 H2 => ts ⟨Pv (i + 1), r, n, Pv (i + 1)⟩ σ2 H2) (hd : ∀ σ H, Pv xs.length σ H → n σ H) : ForK J g ts n r b c σ H := by
  rcases hJ with ⟨rfl, e⟩ | ⟨rfl, e⟩
  · exact for_list (D := ⟨n, r, b, c⟩) Pv h0 (fun i σ H' _ h => .of (hk i σ H' h _ _ e)) hs hd
  · exact for_tup (D := ⟨n, r, b, c⟩) Pv h0 (fun i σ H' _ h => .of (hk i σ H' h _ _ e)) hs hd
theorem lc_seqG {J : It} {g : TG} (hJ : ItX K H1 a xs J) (Pv : Addr → Nat → Hp → Prop) (e : wipe σ vs = σ0) (h0 : ∀ D H2, H1 D = none → Kp H1 H2 → H2 D = some (.lst []) → Pv D 0 H2) (hk : ∀ D i H', Pv D i H' → Kp H1 H')
    (hs : ∀ D i x H, xs[i]? = some x → Pv D i H → g x σ0 H fun σ2 H2 => WipK vs σ2 σ0 (tt σ2 H2 fun b H3 => LcB b te D σ2 H3 (Pv D (i + 1)))) (hd : ∀ D H, Pv D xs.length H → Q (.ref D) H) : LcK J g tt te vs σ H1 Q := fun D hD => by
  subst e
  rcases hJ with ⟨rfl, e⟩ | ⟨rfl, e⟩
  · exact lc_list (Pv D) (h0 D _ hD (Kp.new hD) upd_same) (fun i H' _ h => .of (hk D i H' h _ _ e)) (hs D) (hd D)
  · exact lc_tup (Pv D) (h0 D _ hD (Kp.new hD) upd_same) (fun i H' _ h => .of (hk D i H' h _ _ e)) (hs D) (hd D)
/-! ### all, [::-1], tuple(l), isinstance(x, (C, D)) -/
theorem allX_l {bs : List Bool} {b : Bool} (h : SqL K H a (bs.map V.bl)) (e : bs.all id = b) (q : Q (.bl b) H) : rAll K [.ref a] H Q := ⟨a, bs, rfl, h, by rw [e]; exact q⟩
def RevK (K : PySem.W.Frag) (x : V) (H : Hp) (Q : VK) : Prop := ∃ a xs, x = .ref a ∧ SqL K H a xs ∧ ∀ p, H p = none → Q (.ref p) (upd H p (.lst xs.reverse))
theorem st_rev (q : te σ H fun x H1 => RevK K x H1 Q) : tRevL K te σ H Q := q
theorem revK (h : SqL K H a xs) (e : xs.reverse = zs) (q : ∀ p H', H p = none → Kp H H' → H' p = some (.lst zs) → Q (.ref p) H') : RevK K (.ref a) H Q := ⟨a, xs, rfl, h, fun p hp => q p _ hp (Kp.new hp) (by rw [e]; exact upd_same)⟩
def rTupG (K : PySem.W.Frag) : List V → Hp → VK → Prop := fun xs H Q => ∃ p ys, xs = [.ref p] ∧ ((SqL K H p ys ∧ ∀ l, H l = none → Q (.ref l) (upd H l (.tup ys))) ∨ (SqT K H p ys ∧ Q (.ref p) H))
theorem call_tupG {X : Cx} : CallR X (.type "tuple") (rTupG X.K) := call_tuple_of
theorem tup_l (h : SqL K H a xs) (q : ∀ p H', H p = none → Kp H H' → H' p = some (.tup xs) → Q (.ref p) H') : rTupG K [.ref a] H Q := ⟨a, xs, rfl, .inl ⟨h, fun p hp => q p _ hp (Kp.new hp) upd_same⟩⟩
def rIsi2 (K : PySem.W.Frag) : List V → Hp → VK → Prop := rIsiT K
theorem call_isi2 {X : Cx} : CallR X (.builtin "isinstance") (rIsi2 X.K) := call_isiT
theorem isi_2 {x : V} {t u v : Value} {c d : V} {b : Bool} (h : H p = some (.tup [c, d])) (hc : ClsV c u) (hd : ClsV d v) (ty : TyX K H x t) (e : PySem.W.kitAny K t [u, v] = some b) (q : Q (.bl b) H) : rIsi2 K [x, .ref p] H Q := ⟨x, p, [c, d], t, [u, v], b, rfl, h, .cons hc (.cons hd .nil), ty, e, q⟩
end
/-! ### x op= e in the body of a try: what it raises is told with the names' values of then -/
def tAugW (i : Nat) (te : TE) (t : XK → R2) (W : WX) : TS := fun D σ H => ∃ x, σ[i]? = some (some x) ∧ te σ H fun y H1 => t (fun cls d H' => W cls d σ H') x y H1 fun z H2 => D.nx (σ.set i (some z)) H2
section
variable {X : Cx} {W : WX}
def PIpW (X : Cx) (op : Operator) (W : WX) (t : XK → R2) : Prop := ∀ (pins : List (Addr × Obj)) (s : Shared) (σ : L2.St) (H : Hp) (x y : V) (v u : Value) (Q : VK), Inv X pins σ H s → RelV x v → RelV y u → t (fun cls d H' => W cls d σ H') x y H Q →
    wpAny (model X.prog X.w) X.A (inplaceOp op v u) (EP X pins σ Q) X.xe s
theorem ps_augW {i : Nat} {x : Str} {e : Expr} {te : TE} {op : Operator} {t : XK → R2} {pos pos' : Pos} (nd : X.N.Nodup) (hi : X.N[i]? = some x) (lo : Loc X.env.scope x) (he : PE X e te) (ho : PIpW X op W t)
    (hf : X.fn x = true ∨ X.env.scope.names.lookup x = some .local := by first | exact .inl rfl | exact .inr rfl | assumption) : PS X (.AugAssign (.Name x pos') op e pos) (tAugW i te t W) := ⟨fun pins s σ H D I ⟨y0, e0, rest⟩ => by
  have after : ∀ u0, RelV y0 u0 → wpAny (model X.prog X.w) X.A (eval e X.env) (fun w0 sa => wpAny (model X.prog X.w) X.A (inplaceOp op u0 w0) (fun z0 sb => wpAny (model X.prog X.w) X.A (storeName X.env x z0) (fun _ => SP X pins D .next) X.xe sb) X.xe sa) X.xe s := fun u0 r0 =>
    thn (he.run pins s σ H _ I rest) fun w0 sa ⟨yy, Ha, Ia, ra, qa⟩ => thn (ho pins sa σ Ha y0 yy u0 w0 _ Ia r0 ra qa) fun z0 sb ⟨zz, Hb, Ib, rb, qb⟩ => store_ok Ib nd hi lo rb (fun sc Ic => ⟨_, Hb, Ic, qb⟩) hf
  obtain ⟨mm, ns, tell⟩ := I.loc
  obtain ⟨u0, r0, look⟩ := tell i x y0 hi e0 (lo.elim .inl fun z => .inr (.inl z))
  refine wpAny_AugAssign_Name ?_
  rcases look with ⟨kd, hm⟩ | ⟨kd, cc, ec, ic⟩
  · exact wpAny_loadName_local I.ok.kind kd ns hm (after u0 r0)
  · have kc : X.env.kindOf x = some .cell := kd.resolve_right fun z => by
      have z' : X.env.scope.names.lookup x = some .free := z
      rcases lo with y | y <;> (rw [y] at z'; cases z')
    exact wpAny_loadName_cell I.ok.kind kc ec ic (after u0 r0)⟩
/-- what the run of a def raises, with the names' values of then -/
theorem passS {σ : L2.St} (tk : Takes X W) : ∀ (pins : List (Addr × Obj)) (H : Hp) (s : Shared) (e : Value) (s' : Shared), Inv X pins σ H s → L2.CX X.prog X.w X.stack H s (fun cls d H' => W cls d σ H') e s' → X.xe e s' :=
  fun _ _ _ e s' I c => tk e s' (XE.of_call I (fun _ _ _ h => h) c)
theorem run_fnW {pins : List (Addr × Obj)} {σ : L2.St} {H : Hp} {s : Shared} {Q : VK} {us : List Value} {vs : List V} {k : Nat} {f : Addr} {fd : FuncData} {ps : List Str} {sp : Sp} {dvs : List V} {ds : List Value} (F : FnG X.prog X.w X.K X.mg X.base (L2.CX X.prog X.w) k f fd ps sp) (hr : RoomG k X.A) (hb : Binds X.K fd ps ds) (hd : Vals dvs ds) (tk : Takes X W) (I : Inv X pins σ H s) (r : Vals vs us) (h : sp (vs ++ dvs) H Q (fun cls d H' => W cls d σ H')) :
    wpAny (model X.prog X.w) X.A (call (.ref f) us) (EP X pins σ Q) X.xe s :=
  wp_er (codeAny_mono (F.run hr I.env0 (hb s us I.kIn (len_of F hd r h)) (r.append hd) h) fun z s' hq => by
    match z, hq with
    | .error e, hq => exact passS tk pins H s e s' I hq
    | .ok (.ret u), hq => exact I.after hq
    | .ok .next, hq => exact hq
    | .ok .brk, hq => exact hq
    | .ok .cont, hq => exact hq)
theorem inp_IW {op : Operator} {C g : Addr} {k : Nat} {fd : FuncData} {ps : List Str} {sp : Sp} (B : OpB X.K C op.info.2 g) (J : IntB X.K C op.info.2) (n : NoI X.K C op.info.2) (F : FnG X.prog X.w X.K X.mg X.base (L2.CX X.prog X.w) k g fd ps sp) (hr : RoomG k X.A) (hb : Binds X.K fd ps []) (tk : Takes X W) : PIpW X op W (fun E => rBinI C sp E) := by
  intro pins s σ H x y v u Q I rx ry h
  obtain ⟨a, dx, fs, j, rfl, rfl, ha, q⟩ := h
  cases (show v = Value.ref a from rx)
  obtain ⟨t, rfl⟩ := (show ∃ t, u = Value.int j t from ry)
  obtain ⟨ox, od, _, J1⟩ := inst_of I ha
  obtain ⟨_, h1⟩ := J.fo
  obtain ⟨_, h2⟩ := J.ro
  exact inp_of I.kIn J1 n (bin1_type I.kIn J1 B rfl h1 h2 J.sub (thn (run_fnW (us := [.ref a, .int j t]) (vs := [.ref a, .int j]) F hr hb .nil tk I (.cons rfl (.cons ⟨t, rfl⟩ .nil)) q) fun w s' z => cmp_end (P := fun _ _ => True) z))
end
section
variable {σ : L2.St} {H : Hp} {i : Nat} {te : TE} {t : XK → R2} {W : WX} {x : V} {D : Ends}
theorem st_augW (h : σ[i]? = some (some x)) (q : te σ H fun y H1 => t (fun cls d H' => W cls d σ H') x y H1 fun z H2 => gName i z σ H2 D.nx) : tAugW i te t W D σ H := ⟨x, h, q⟩
end
end G
namespace G
open PySem PySem.Spec PyProof.Rows L2
section
variable {K : PySem.W.Frag} {H H' H1 : Hp}
mutual
theorem dp_kp (k : Kp H H') : ∀ {v : V} {d : PyData}, Dp K H v d → Dp K H' v d
  | _, _, .non => .non
  | _, _, .bl b => .bl b
  | _, _, .int i => .int i
  | _, _, .str x => .str x
  | _, _, .lst h t => .lst (SqL.kp k h) (dpAll_kp k t)
  | _, _, .tup h t => .tup (SqT.kp k h) (dpAll_kp k t)
theorem dpAll_kp (k : Kp H H') : ∀ {vs : List V} {ds : List PyData}, DpAll K H vs ds → DpAll K H' vs ds
  | _, _, .nil => .nil
  | _, _, .cons h t => .cons (dp_kp k h) (dpAll_kp k t)
end
/-- [f(x) for x in xs]: what each element gives is known -/
theorem lc_map1 {a : Addr} {xs ys : List V} {J : It} {j : Nat} {te : TE} {vs : List Nat} {σ σ0 : L2.St} {Q : VK} (hJ : ItX K H1 a xs J) (e : wipe σ vs = σ0) (e2 : ∀ x, wipe (σ0.set j (some x)) vs = σ0) (len : xs.length = ys.length) (lz : xs.length ≤ 900)
    (hs : ∀ (i : Nat) (x y : V) (H' : Hp) (R : VK), xs[i]? = some x → ys[i]? = some y → Kp H1 H' → (∀ H4, Kp H' H4 → R y H4) → te (σ0.set j (some x)) H' R)
    (hd : ∀ D H', H1 D = none → H' D = some (.lst ys) → Kp H1 H' → Q (.ref D) H') : LcK J (gName j) tYes te vs σ H1 Q := by
  refine lc_seqG hJ (fun D i H' => H1 D = none ∧ i ≤ ys.length ∧ H' D = some (.lst (ys.take i)) ∧ Kp H1 H') e (fun D H2 hn k eD => ⟨hn, Nat.zero_le _, by simpa using eD, k⟩) (fun D i H' ⟨_, _, _, k⟩ => k) ?_ ?_
  · rintro D i x H' hx ⟨hn, hi, eD, k⟩
    have hi2 : i < ys.length := by
      have := (List.getElem?_eq_some_iff.mp hx).1
      omega
    obtain ⟨y, hy⟩ : ∃ y, ys[i]? = some y := ⟨_, List.getElem?_eq_getElem hi2⟩
    refine ⟨e2 x, ?_⟩
    show LcB true te D _ H' _
    refine st_lcT ?_
    have tk : ys.take i ++ [y] = ys.take (i + 1) := by
      rw [List.take_add_one, hy]
      rfl
    refine hs i x y H' _ hx hy k fun H4 k4 => ?_
    refine st_app (k4 _ _ eD) (by rw [sizeLine_eq, List.length_take]; omega) fun H5 m e5 => ⟨hn, hi2, by rw [← tk]; exact e5, (k.trans k4).md_new m hn⟩
  · rintro D H' ⟨hn, _, eD, k⟩
    exact hd D H' hn (by rw [eD, len, List.take_length]) k
end
end G
namespace G
open PySem PySem.Spec PySem.Calls PyProof.Rows L2
section
variable {prog : Program} {w : World}
theorem declines_mod : Declines prog w "mod" := fun {A E s Q n t x ox} hx hd q => by
  unfold tryMethod
  refine wpAny_bind ?_
  generalize hz : PySem.dunder "mod" = z
  refine wpAny_callSpecial?_slot (id := "int.__mod__") (T := "int") (typeIs_int s n t) (by rw [← hz]; exact F.slot_int_mod) ?_
  exact wpAny_call_entry F.slot_int_mod (typeIs_int s n t) F.entry_int_mod (intB_declines hx hd ⟨_, rfl, wpAny_pure q⟩) (F.args_int_mod_2 _ _)
theorem fd_declines {M : Model} {A : Around} {E : Value → Shared → Prop} {s : Shared} {a : Int} {t : Tok} {x : Addr} {ox : Obj} {Q : PySem.Fin → Shared → Prop} (hx : s.heap.get? x = some ox) (hd : ox.data = .plain) (h : Q (.done (.ret .notImplemented)) s) :
    wpAny M A (PySem.Builtin.«int.__floordiv__» ⟨[.int a t, .ref x], []⟩) Q E s := by
  unfold PySem.Builtin.«int.__floordiv__»
  refine wpAny_bind ?_
  obtain ⟨hp, g2, d, tk, os⟩ := s
  unfold PySem.Builtin.exactOperandsForPylong
  wp_walk
  rw [hd]
  wp_walk
  rw [hd]
  wp_walk
  exact h
theorem declines_floordiv : Declines prog w "floordiv" := fun {A E s Q n t x ox} hx hd q => by
  unfold tryMethod
  refine wpAny_bind ?_
  generalize hz : PySem.dunder "floordiv" = z
  refine wpAny_callSpecial?_slot (id := "int.__floordiv__") (T := "int") (typeIs_int s n t) (by rw [← hz]; exact F.slot_int_floordiv) ?_
  exact wpAny_call_entry F.slot_int_floordiv (typeIs_int s n t) F.entry_int_floordiv (fd_declines hx hd ⟨_, rfl, wpAny_pure q⟩) (F.args_int_floordiv_2 _ _)
end
section
variable {P : Program} {w : World} {K : PySem.W.Frag} {mg : Str → Option Value} {base : Heap} {CX : CXT} {k : Nat} {f : Addr} {fd : FuncData} {ps : List Str} {sp sp' : Sp}
/-- a promise that lets no exception out, and one that does -/
theorem FnG.or (F : FnG P w K mg base CX0 k f fd ps sp) (G' : FnG P w K mg base CX k f fd ps sp') : FnG P w K mg base CX k f fd ps (fun vs H Q E => sp vs H Q E ∨ sp' vs H Q E) := ⟨fun h => h.elim F.len G'.len, fun r e0 hb rv h => h.elim (fun h => codeAny_mono (F.run r e0 hb rv h) fun r s' hq => by
    match r, hq with
    | .error _, hq => exact (show False from hq).elim
    | .ok (.ret _), hq => exact hq
    | .ok .next, hq => exact hq
    | .ok .brk, hq => exact hq
    | .ok .cont, hq => exact hq) (G'.run r e0 hb rv)⟩
end
end G
namespace G
open PySem PySem.Spec PyProof.Rows L2
/-! ### the same rules in a block or lambda: K is told -/
section
variable {X : Cx} {K : PySem.W.Frag} {k : Nat}
theorem call_reprK (e : X.K = K) (hr : RoomG k X.A) : CallR X (.builtin "repr") (rReprG K) := by subst e; exact call_reprG hr
theorem call_isiK (e : X.K = K) : CallR X (.builtin "isinstance") (rIsiG K) := by subst e; exact call_isiG
theorem call_lenK (e : X.K = K) : CallR X (.builtin "len") (rLenG K) := by subst e; exact call_lenG
theorem ix_seqK (e : X.K = K) : IxR X (rIx K) := by subst e; exact ix_seq
theorem op_eqK (e : X.K = K) (hu : X.A.units + 64 < cLine) : OpR X (compareOp .Eq) (rEqG K) := by subst e; exact op_eqG hu
theorem op_neK (e : X.K = K) (hu : X.A.units + 64 < cLine) : OpR X (compareOp .NotEq) (rNeG K) := by subst e; exact op_neG hu
theorem op_addK (e : X.K = K) : OpR X (binaryOp .Add) (rAddG K) := by subst e; exact op_addG
theorem sl_K (e : X.K = K) : SlR X (rSlG K) := by subst e; exact sl_G
end
end G
namespace G
open PySem PySem.Spec PySem.Calls PyProof.Rows PySem.W
section
variable {prog : Program} {w : World} {A : Around} {E : Value → Shared → Prop} {s : Shared} {K : Frag} {x C f : Addr} {ox : Obj} {od : Option Obj}
theorem pyStr_own {Q : Value → Shared → Prop} (hu : A.units < cLine) (X : K.In s.heap) (I : InstAt s.heap x ox C od) (hs : findIn K (.ref C) "__str__" = some (some (.ref f))) (hf : isFn K (.ref f) = true)
    (h : wpAny (model prog w) A (call (.ref f) [.ref x]) (fun r s₁ => ∃ y u, r = .str y u ∧ Q r s₁) E s) : wpAny (model prog w) A (pyStrObj (.ref x)) Q E s := by
  unfold pyStrObj
  refine wpAny_bind (m := cRoomFor _ _) (wpAny_cRoomFor hu ?_)
  refine wpAny_bind (m := callSpecial? (.ref x) (Str.ofString "__str__")) (special_fn X I hs (beq_iff_eq.mp hf) (wpAny_mono h (fun r s' hr => ?_) fun _ _ y => y))
  obtain ⟨y, u, rfl, q⟩ := hr
  exact wpAny_bind (wpAny_isInstance (T := "str") (b := true) rfl isSubtype_str_str (wpAny_pure q))
end
end G
namespace G
open PySem PySem.Spec PySem.Calls PyProof.Rows L2
section
variable {X : Cx} {CX : CXT} {k : Nat} {C g : Addr} {sp : Sp} {E : XK} {fd : FuncData} {ps : List Str} {e : Expr} {te : TE} {pos : Pos} {σ : L2.St} {H : Hp} {Q : VK} {a : Addr}
/-- {x!s}, x of an own class with an own __str__ -/
def tFmtS (C : Addr) (sp : Sp) (E : XK) (te : TE) : TE := fun σ H Q => te σ H fun x H1 => ∃ a dx fs, x = .ref a ∧ H1 a = some (.ins C dx fs) ∧ sp [.ref a] H1 (fun v H' => ∃ z : Str, v = .str z ∧ z.length ≤ sizeLine ∧ Q v H') E
theorem pe_fmtS (m : OwnM X.K C "__str__" g) (F : FnG X.prog X.w X.K X.mg X.base CX k g fd ps sp) (hr : RoomG k X.A) (hb : Binds X.K fd ps []) (hx : Passes CX X E) (he : PE X e te) : PE X (.FormattedValue e 115 none pos) (tFmtS C sp E te) := by
  refine ⟨fun pins s σ H Q I h => ?_⟩
  refine wpAny_FormattedValue_s (thn (he.run pins s σ H _ I h) fun v s1 hv => ?_)
  obtain ⟨x, H1, I1, r1, a, dx, fs, rfl, ha, q⟩ := hv
  cases (show v = Value.ref a from r1)
  obtain ⟨ox, od, _, J⟩ := inst_of I1 ha
  have run := run_at (args := ⟨[.ref a], []⟩) (ws := [.ref a]) (vs := [.ref a]) F hr I1.env0 hx I1 (hb s1 [.ref a] I1.kIn (by have l := F.len q; exact l)) (.cons rfl .nil) q
  show wpAny (model X.prog X.w) X.A (pyStrObj (.ref a)) _ _ _
  refine pyStr_own (by have := hr.units; omega) I1.kIn J m.at_ m.fn (wpAny_mono (wp_er run) (fun v s' z => ?_) fun _ _ e => e)
  obtain ⟨w, H', I', rw', z, ez, hz, qz⟩ := z
  subst ez
  obtain ⟨t, e⟩ := (show ∃ t, v = Value.str z t from rw')
  subst e
  exact ⟨z, t, rfl, wpAny_formatField_str ⟨.str z, H', I', ⟨t, rfl⟩, qz⟩ ⟨.str z, H', I'.tok _, ⟨_, rfl⟩, qz⟩ hz⟩
theorem st_fmtS (q : te σ H fun x H1 => ∃ a dx fs, x = .ref a ∧ H1 a = some (.ins C dx fs) ∧ sp [.ref a] H1 (fun v H' => ∃ z : Str, v = .str z ∧ z.length ≤ sizeLine ∧ Q v H') E) : tFmtS C sp E te σ H Q := q
/-- repr of an empty dict -/
def rReprD0 : List V → Hp → VK → Prop := fun xs H Q => ∃ a, xs = [.ref a] ∧ H a = some (.dK []) ∧ Q (.str "{}") H
theorem call_reprD0 (hr : RoomG k X.A) : CallR X (.builtin "repr") rReprD0 := by
  intro pins s σ H xs us Q I r h
  obtain ⟨a, rfl, ha, q⟩ := h
  obtain ⟨u, rfl, ru⟩ := vals1 r
  cases (show u = Value.ref a from ru)
  obtain ⟨_, hs, vs, kv, o, es, ep, ho, hx, hd, _, hp, _⟩ := dk_of I.hok ha
  have hv : vs = [] := by cases kv; rfl
  subst hv
  have hes : es.toList = [] := by
    have := hp.length
    simpa using this
  have rd : Reads s.heap (.ref a) (.dict []) (a :: [] ++ []) := .dict ho hx.1 hd (by rw [hes]; exact .nil) (by rw [hes]; exact .nil)
  have e0 : (PyData.dict []).shown = "{}" := by decide +kernel
  refine repr_of_reads' rd (by decide +kernel) (fun _ hm => ?_) hr.gs (by have := hr.units; have : (PyData.dict []).depth ≤ 2 := (by decide +kernel); omega) (fun _ _ e => e) (fun h' t tk k => ⟨.str _, H, I.kept k, ⟨t, rfl⟩, by rw [e0]; exact q⟩) (by rw [e0]; decide +kernel)
  simp only [List.append_nil, List.mem_singleton] at hm
  subst hm
  simp at hs
def rReprGD (K : PySem.W.Frag) : List V → Hp → VK → Prop := fun xs H Q => rReprG K xs H Q ∨ rReprD0 xs H Q
theorem call_reprGD (hr : RoomG k X.A) : CallR X (.builtin "repr") (rReprGD X.K) := (call_reprG hr).or (call_reprD0 hr)
end
end G
namespace G
open PySem PySem.Spec PySem.Calls PyProof.Rows L2
/-! ### defs that may be called while an exception is handled (they raise nothing and walk through nothing) -/
section
variable {P : Program} {w : World} {K : PySem.W.Frag} {mg : Str → Option Value} {base : Heap}
/-- room, whatever is handled -/
structure RoomW (k : Nat) (A : Around) : Prop where
  dp : A.depth + 3 * k + 5 < recursionLimit
  un : A.units + 16 * k + 200 < cLine
  gs : A.guards = some []
theorem RoomW.mono {j k : Nat} {A : Around} (r : RoomW k A) (h : j ≤ k) : RoomW j A := ⟨Nat.lt_of_le_of_lt (by omega) r.dp, Nat.lt_of_le_of_lt (by omega) r.un, r.gs⟩
theorem RoomW.deeper {k : Nat} {A : Around} (r : RoomW (k + 1) A) (env : Env) : RoomW k (A.deeper env) :=
  ⟨by have z := r.dp; show (A.depth + 1) + 3 * k + 5 < recursionLimit; omega, by have z := r.un; show (A.units + 3) + 16 * k + 200 < cLine; omega, r.gs⟩
theorem RoomW.in1 {k : Nat} {A : Around} (r : RoomW (k + 1) A) : RoomW k A.in1 :=
  ⟨by have z := r.dp; show A.depth + 3 * k + 5 < recursionLimit; omega, by have z := r.un; show (A.units + 1) + 16 * k + 200 < cLine; omega, r.gs⟩
theorem RoomW.units {k : Nat} {A : Around} (r : RoomW k A) : A.units + 64 < cLine := by have z := r.un; omega
theorem RoomG.warm {k : Nat} {A : Around} (r : RoomG k A) : RoomW k A := ⟨r.rm.dp, r.rm.un, r.gs⟩
theorem RoomG.hot {k : Nat} {A : Around} {h : Option Value} (r : RoomG k A) : RoomW k (A.mark h) := ⟨r.rm.dp, r.rm.un, r.gs⟩
structure FnW (P : Program) (w : World) (K : PySem.W.Frag) (mg : Str → Option Value) (base : Heap) (CX : CXT) (k : Nat) (f : Addr) (fd : FuncData) (ps : List Str) (sp : Sp) : Prop where
  len : ∀ {vs : List V} {H : Hp} {Q : VK} {E : XK}, sp vs H Q E → vs.length = ps.length
  run : ∀ {A : Around} {outer : List Env} {s : Shared} {H : Hp} {args : Args} {us : List Value} {vs : List V} {Q : VK} {E : XK},
    RoomW k A → Env0 P w K mg base A outer s H → BindsTo s fd args (ps.zip us) → Vals vs us → sp vs H Q E → codeAny (model P w) A (.call (.ref f) args) (CR CX outer P w H s Q E) s
theorem FnW.fn {CX : CXT} {k : Nat} {f : Addr} {fd : FuncData} {ps : List Str} {sp : Sp} (F : FnW P w K mg base CX k f fd ps sp) : FnG P w K mg base CX k f fd ps sp := ⟨F.len, fun r => F.run r.warm⟩
/-- the surroundings with nothing handled -/
abbrev cool (A : Around) : Around := { A with handled := none }
abbrev cxW (CX : CXT) (P : Program) (w : World) (K : PySem.W.Frag) (mg : Str → Option Value) (base : Heap) (N : List Str) (q : Str) (sc : Scope) (f : Addr) (cd : Value) (A : Around) (outer : List Env) (s : Shared) (H : Hp) (E : XK) : Cx :=
  { cxOf CX P w K mg base N q sc f cd A outer s H E with calm := false }
theorem inv_warm {CX : CXT} {N : List Str} {q : Str} {sc : Scope} {f : Addr} {cd : Value} {A : Around} {outer : List Env} {s s1 : Shared} {H H1 : Hp} {E : XK} {σ : L2.St} (I : Inv (cxOf CX P w K mg base N q sc f cd (cool A) outer s H E) [] σ H1 s1) :
    Inv (cxW CX P w K mg base N q sc f cd A outer s H E) [] σ H1 s1 :=
  ⟨⟨I.ok.mod, I.ok.kind, I.ok.glob, I.ok.blt, I.ok.above, I.ok.inj, I.ok.has, I.ok.cab, fun z => Bool.noConfusion (show false = true from z), I.ok.frames, I.ok.stk, I.ok.exf, I.ok.bs, I.ok.bsz, I.ok.noex, I.ok.exfs, I.ok.funs, I.ok.frf⟩,
    I.os, I.bare, I.base, I.loc, I.cell, I.free, I.freeC, I.pin, I.hok, I.len⟩
theorem run_ofW {CX : CXT} {k : Nat} {f : Addr} {nm q : Str} {params : Arguments} {body : List Stmt} {sc : Scope} {dV kV doc pm cd ct oc : Value} {an od : Option Addr} {osl : Array (Option Value)} {N ps : List Str}
    (lk : K.lookup f = some ⟨oc, od, .func (PySem.W.fnOf nm q params body sc dV kV doc pm an cd ct), osl⟩) (hc : PySem.W.codeIn K cd q = true) (S : FnScope N ps sc) {A : Around} {outer : List Env} {s : Shared} {H : Hp} {args : Args} {us : List Value} {vs : List V} {Q : VK} {E : XK}
    (hr : RoomW (k + 1) A) (e : Env0 P w K mg base A outer s H) (hb : BindsTo s (PySem.W.fnOf nm q params body sc dV kV doc pm an cd ct) args (ps.zip us)) (rv : Vals vs us) (hl : vs.length = ps.length)
    (hbody : ∃ t, PSs (cxW CX P w K mg base N q sc f cd A outer s H E) body t ∧ t { nx := fun _ H' => Q .non H', rt := Q } (L2.start N vs) H) : codeAny (model P w) A (.call (.ref f) args) (CR CX outer P w H s Q E) s := by
  have kin : K.In s.heap := e.mod.kin.keeps (fun a o z => (e.bs a o z).1)
  have kinds : ∀ y ∈ ps.zip us, sc.names.lookup y.1 = some .local ∨ (sc.names.lookup y.1 = some .cell ∧ ((cellsFrom (s.heap.objs.size + 1) sc.names []).lookup y.1).isSome = true) := by
    intro y hy
    rcases S.par y.1 (List.of_mem_zip (show (y.1, y.2) ∈ ps.zip us from hy)).1 with z | z
    · exact .inl z
    · exact .inr ⟨z, PySem.W.cellsFrom_some _ _ _ (.inl z)⟩
  have dp := hr.dp
  refine codeAny_call_function (by omega) (kin _ _ lk) rfl S.co S.gen rfl (PySem.W.codeRec_of kin hc) (hb _ _ _ _ (wpAny_newFunctionEnv_cells S.kind kinds fun env he s1 x => ?_))
  subst he
  obtain ⟨t, ht, hq⟩ := hbody
  have e' : Env0 P w K mg base (cool A) outer s H := ⟨e.frames, e.mod, e.bs, e.bsz, e.funs, e.frf, e.hok, e.bare⟩
  have I := inv_warm (inv_start (CX := CX) (E := E) (A := cool A) S rfl e' hl rv x)
  refine ⟨(e.mod.nolimit.keeps (fun a o z => (e.bs a o z).1)).keeps x.toInCall.keep, codeAny_func (wpAny_mono (ht.run [] s1 _ H _ I hq) (fun fl s' hs => ?_) fun _ _ z => z)⟩
  match fl, hs with
  | .ret u, ⟨v, _, H', J, r, z⟩ => exact ⟨v, H', J.os, J.bare, J.base, J.hok, r, z⟩
  | .next, ⟨_, H', J, z⟩ => exact ⟨.non, H', J.os, J.bare, J.base, J.hok, rfl, z⟩
  | .brk, ⟨_, _, _, z⟩ => exact z.elim
  | .cont, ⟨_, _, _, z⟩ => exact z.elim
theorem ok_ofW {x q : Str} {st : Stmt} {dvs : List V} {kws : List (Str × V)} {f : Addr} {fd : FuncData} {N ps : List Str} {k : Nat} {sp : Sp} (F : L2.FunD K x q (defArgs st) (defBody st) (defScope st) dvs kws f fd) (S : FnScope N ps (defScope st)) (len : ∀ vs H Q E, sp vs H Q E → vs.length = ps.length)
    (hbody : ∀ (cdv : Value) (A : Around) (outer : List Env) (s : Shared) (H : Hp) (vs : List V) (Q : VK) (E : XK), RoomW k (A.deeper (envOfC q (defScope st) s.heap.objs.size f cdv)) → sp vs H Q E →
      ∃ t, PSs (cxW CX0 P w K mg base N q (defScope st) f cdv A outer s H E).nox (defBody st) t ∧ t { nx := fun _ H' => Q .non H', rt := Q } (start N vs) H) : FnW P w K mg base CX0 (k + 1) f fd ps sp := by
  obtain ⟨oc, od, dV, kV, doc, pm, an, cdv, ct, osl, rfl, lk, hcd, _, _⟩ := F.ex
  exact ⟨fun h => len _ _ _ _ h, fun {A outer s H args us vs Q E} r e0 hb rv h => run_ofW lk hcd S r e0 hb rv (len _ _ _ _ h) (let ⟨t, ht, q⟩ := hbody cdv A outer s H vs Q E (r.deeper _) h; ⟨t, ht.nox, q⟩)⟩
end
section
variable {X : Cx} {CX : CXT} {k : Nat} {f C g : Addr} {fd : FuncData} {ps : List Str} {sp : Sp} {dvs : List V} {ds : List Value} {E : XK} {x : Str} {p pos : Pos} {e : Expr} {es : List Expr} {te : TE} {t : TA} {pins : List (Addr × Obj)} {σ : L2.St} {H : Hp} {s : Shared} {Q : VK} {us : List Value} {vs : List V}
theorem run_atW {A' : Around} {args : Args} {ws : List Value} (F : FnW X.prog X.w X.K X.mg X.base CX k f fd ps sp) (hr : RoomW k A') (e0 : Env0 X.prog X.w X.K X.mg X.base A' X.stack s H) (hx : Passes CX X E) (I : Inv X pins σ H s) (hb : BindsTo s fd args (ps.zip ws)) (r : Vals vs ws) (h : sp vs H Q E) :
    codeAny (model X.prog X.w) A' (.call (.ref f) args) (ER X pins σ Q) s := codeAny_mono (F.run hr e0 hb r h) fun _ _ hq => er_of hx I hq
theorem run_fnGW (F : FnW X.prog X.w X.K X.mg X.base CX k f fd ps sp) (hr : RoomW k X.A) (hb : Binds X.K fd ps ds) (hd : Vals dvs ds) (hx : Passes CX X E) (I : Inv X pins σ H s) (r : Vals vs us) (h : sp (vs ++ dvs) H Q E) :
    wpAny (model X.prog X.w) X.A (call (.ref f) us) (EP X pins σ Q) X.xe s := wp_er (run_atW F hr I.env0 hx I (hb s us I.kIn (by rw [← (r.append hd).length]; exact F.len h)) (r.append hd) h)
theorem pe_callW (F : FnW X.prog X.w X.K X.mg X.base CX k f fd ps sp) (hr : RoomW k X.A) (hg : Gl X x) (hm : X.mg x = some (.ref f)) (hk : PySem.W.keepIn X.K (.ref f) = true) (hb : Binds X.K fd ps ds) (hd : Vals dvs ds) (hx : Passes CX X E) (ha : PA X (e :: es) t)
    (hdb : (x == ("__debug__" : Str)) = false := by decide) (he : starEach (e :: es) X.env = (false, eval e X.env) :: starEach es X.env := by rfl) (hpl : (backTo pos (starEach es X.env)).any (·.1) = false := by rfl) : PE X (.Call (.Name x p) (e :: es) [] pos) (tCall sp dvs E t) :=
  ⟨fun pins s σ H _ I h => wpAny_Call_Name_kw (ld_glob I hg hm (PySem.W.callWith_K (h₀ := X.base) I.ok.mod.kin hk (thn (ha.run pos pins s σ H _ I h) fun _ _ ⟨_, _, J, r, q⟩ => ⟨J.kIn, run_fnGW F hr hb hd hx J r q⟩) he hpl) hdb)⟩
theorem call_strOW (m : OwnM X.K C "__str__" g) (F : FnW X.prog X.w X.K X.mg X.base CX k g fd ps sp) (hr : RoomW (k + 2) X.A) (hb : Binds X.K fd ps []) (hx : Passes CX X E) : CallR X (.type "str") (rStrO C sp E) := by
  intro pins s σ H xs us Q I r h
  obtain ⟨a, dx, fs, rfl, ha, q⟩ := h
  obtain ⟨u, rfl, ru⟩ := vals1 r
  cases (show u = Value.ref a from ru)
  obtain ⟨ox, od, _, J⟩ := inst_of I ha
  have run := run_atW (args := ⟨[.ref a], []⟩) (ws := [.ref a]) (vs := [.ref a]) F (hr.in1).in1 I.env0.in1.in1 hx I (hb s [.ref a] I.kIn (by have l := F.len q; exact l)) (.cons rfl .nil) q
  refine PySem.W.kso_call (by have := hr.units; show X.A.units + 1 + 1 < cLine; omega) I.kIn J m.at_ m.fn (wpAny_mono (wp_er run) (fun v s' z => ?_) fun _ _ e => e)
  obtain ⟨w, H', I', rw', z, ez, qz⟩ := z
  subst ez
  obtain ⟨t, e⟩ := (show ∃ t, v = Value.str z t from rw')
  subst e
  exact ⟨.str z, H', I', ⟨t, rfl⟩, qz⟩
theorem pe_fmtSW (m : OwnM X.K C "__str__" g) (F : FnW X.prog X.w X.K X.mg X.base CX k g fd ps sp) (hr : RoomW k X.A) (hb : Binds X.K fd ps []) (hx : Passes CX X E) (he : PE X e te) : PE X (.FormattedValue e 115 none pos) (tFmtS C sp E te) := by
  refine ⟨fun pins s σ H Q I h => ?_⟩
  refine wpAny_FormattedValue_s (thn (he.run pins s σ H _ I h) fun v s1 hv => ?_)
  obtain ⟨x, H1, I1, r1, a, dx, fs, rfl, ha, q⟩ := hv
  cases (show v = Value.ref a from r1)
  obtain ⟨ox, od, _, J⟩ := inst_of I1 ha
  have run := run_atW (args := ⟨[.ref a], []⟩) (ws := [.ref a]) (vs := [.ref a]) F hr I1.env0 hx I1 (hb s1 [.ref a] I1.kIn (by have l := F.len q; exact l)) (.cons rfl .nil) q
  show wpAny (model X.prog X.w) X.A (pyStrObj (.ref a)) _ _ _
  refine pyStr_own (by have := hr.units; omega) I1.kIn J m.at_ m.fn (wpAny_mono (wp_er run) (fun v s' z => ?_) fun _ _ e => e)
  obtain ⟨w, H', I', rw', z, ez, hz, qz⟩ := z
  subst ez
  obtain ⟨t, e⟩ := (show ∃ t, v = Value.str z t from rw')
  subst e
  exact ⟨z, t, rfl, wpAny_formatField_str ⟨.str z, H', I', ⟨t, rfl⟩, qz⟩ ⟨.str z, H', I'.tok _, ⟨_, rfl⟩, qz⟩ hz⟩
theorem call_reprGDW (hr : RoomW k X.A) : CallR X (.builtin "repr") (rReprGD X.K) := by
  intro pins s σ H xs us Q I r h
  rcases h with ⟨x, d, rfl, dp, hs, nd, hz, hd, q⟩ | ⟨a, rfl, ha, q⟩
  · obtain ⟨u, rfl, ru⟩ := vals1 r
    obtain ⟨as, rd⟩ := Dp.reads I d x u dp ru
    exact repr_reads rd hs nd hz hr.gs (by have := hr.units; omega) fun h' t tk k => ⟨.str _, H, I.kept k, ⟨t, rfl⟩, q⟩
  · obtain ⟨u, rfl, ru⟩ := vals1 r
    cases (show u = Value.ref a from ru)
    obtain ⟨_, hs, vs, kv, o, es, ep, ho, hx, hd, _, hp, _⟩ := dk_of I.hok ha
    have hv : vs = [] := by cases kv; rfl
    subst hv
    have hes : es.toList = [] := by
      have := hp.length
      simpa using this
    have rd : Reads s.heap (.ref a) (.dict []) (a :: [] ++ []) := .dict ho hx.1 hd (by rw [hes]; exact .nil) (by rw [hes]; exact .nil)
    have e0 : (PyData.dict []).shown = "{}" := by decide +kernel
    refine repr_of_reads' rd (by decide +kernel) (fun _ hm => ?_) hr.gs (by have := hr.units; have : (PyData.dict []).depth ≤ 2 := (by decide +kernel); omega) (fun _ _ e => e) (fun h' t tk k => ⟨.str _, H, I.kept k, ⟨t, rfl⟩, by rw [e0]; exact q⟩) (by rw [e0]; decide +kernel)
    simp only [List.append_nil, List.mem_singleton] at hm
    subst hm
    simp at hs
end
end G
namespace ZS
open PySem PySem.Spec PySem.Calls PyProof.Rows L2 RZ
/-! ### zip of two texts in ASCII -/
abbrev SI (h : Heap) (it : Addr) (x : Str) (t : Tok) (i : Nat) : Prop := h.IsStrIter it "str_ascii_iterator" x t i
section
variable {prog : Program} {w : World} {A : Around} {E : Value → Shared → Prop} {s : Shared}
theorem nextS_item {it : Addr} {x : Str} {t : Tok} {i c : Nat} {Q : Value → Shared → Prop} (hit : SI s.heap it x t i) (hx : x.cps[i]? = some c)
    (hQ : ∀ h', SI h' it x t (i + 1) → Heap.SameBut it s.heap h' → Q (.str ⟨#[c]⟩ s.toks) { s with heap := h', toks := s.toks + 1 }) :
    wpAny (model prog w) A (Builtin.SmallTypes.nextOf (.ref it)) Q E s := by
  obtain ⟨o, ho, hc, hd⟩ := id hit
  unfold Builtin.SmallTypes.nextOf
  refine wpAny_bind (wpAny_callSpecial?_slot (name := Str.ofString "__next__") hit.typeIs F.slot_str_ascii_iterator_next
    (wpAny_call_entry F.slot_str_ascii_iterator_next hit.typeIs F.entry_str_ascii_iterator_next ?_ (F.args_str_ascii_iterator_next_1 _)))
  show wpAny _ _ (field (.ref it) 0 >>= _) _ _ s
  refine wpAny_bind (wpAny_field ho hd (x := .str x t) rfl ?_)
  show wpAny _ _ (field (.ref it) 1 >>= _) _ _ s
  refine wpAny_bind (wpAny_field ho hd (x := .int i 0) rfl ?_)
  simp only [Int.toNat_natCast, hx]
  refine wpAny_bind (wpAny_setField ho hd (by simp) (wpAny_bind (wpAny_mkStr (wpAny_pure ⟨_, rfl, wpAny_pure (hQ _ ?_ (Heap.SameBut.update ..))⟩) (by show 1 ≤ sizeLine; decide))))
  exact ⟨_, Heap.get?_update_self _ ho (Obj.isFreed_of_fields (Obj.data_mapFields hd _)), (Obj.cls_mapFields ..).trans hc, by
    rw [Obj.data_mapFields hd]; simp [rawInt]⟩
theorem nextS_end {it : Addr} {x : Str} {t : Tok} {i : Nat} {Q : Value → Shared → Prop} (hh : A.handled = none) (hit : SI s.heap it x t i) (hx : x.cps[i]? = none)
    (hE : ∀ h' e, Heap.ExtBut it s.heap h' → (∃ o, h'.get? e = some o ∧ o.cls = .type "StopIteration") → E (.ref e) { s with heap := h' }) :
    wpAny (model prog w) A (Builtin.SmallTypes.nextOf (.ref it)) Q E s := by
  obtain ⟨o, ho, hc, hd⟩ := id hit
  unfold Builtin.SmallTypes.nextOf
  refine wpAny_bind (wpAny_callSpecial?_slot (name := Str.ofString "__next__") hit.typeIs F.slot_str_ascii_iterator_next
    (wpAny_call_entry F.slot_str_ascii_iterator_next hit.typeIs F.entry_str_ascii_iterator_next ?_ (F.args_str_ascii_iterator_next_1 _)))
  show wpAny _ _ (field (.ref it) 0 >>= _) _ _ s
  refine wpAny_bind (wpAny_field ho hd (x := .str x t) rfl ?_)
  show wpAny _ _ (field (.ref it) 1 >>= _) _ _ s
  refine wpAny_bind (wpAny_field ho hd (x := .int i 0) rfl ?_)
  simp only [Int.toNat_natCast, hx]
  refine wpAny_bind (wpAny_rule (wpAny_bind (wpAny_setField ho hd (by simp) (wpAny_bind (wpAny_letGo ?_)))))
  show wpAny _ _ (newExc (.type "StopIteration") [] >>= _) _ _ _
  refine wpAny_bind ?_
  simp only [newExc, newTuple]
  refine wpAny_bind (wpAny_newObj_type ?_ (by size_fits))
  refine wpAny_bind (m := firstArgMember _ _) (wpAny_of_eq (a := Value.none) (by first | rfl | (simp only [firstArgMember]; rfl)) ?_)
  refine wpAny_newObj_type ?_ (by size_fits)
  simp only [raiseNew]
  refine wpAny_bind (wpAny_handled ?_)
  first | rw [show A.in1.handled = none from hh] | rw [hh]
  refine wpAny_bind (wpAny_pure (wpAny_throw ?_))
  exact hE _ _ (((Heap.SameBut.update ..).extBut.push _).push _) ⟨_, Heap.get?_push_size _ rfl, rfl⟩
theorem SI.at {h h' : Heap} {it : Addr} {x : Str} {t : Tok} {i : Nat} (st : SI h it x t i) (k : ∀ o, h.get? it = some o → h'.get? it = some o) : SI h' it x t i := let ⟨o, ho, r⟩ := st; ⟨o, k o ho, r⟩
theorem SI.ext {h h' : Heap} {b it : Addr} {x : Str} {t : Tok} {i : Nat} (st : SI h it x t i) (k : Heap.ExtBut b h h') (n : it ≠ b) : SI h' it x t i := let ⟨o, ho, r⟩ := st; ⟨o, k it o n ho, r⟩
/-- who is apart from whom in such a zip -/
structure Ap (z TI TO i1 i2 : Addr) : Prop where
  TIz : TI ≠ z
  TOz : TO ≠ z
  i1z : i1 ≠ z
  i2z : i2 ≠ z
  TITO : TI ≠ TO
  TIi1 : TI ≠ i1
  TIi2 : TI ≠ i2
  TOi1 : TO ≠ i1
  TOi2 : TO ≠ i2
  i12 : i1 ≠ i2
theorem ap_new (I : Nat) : Ap (I + 4) (I + 2) (I + 3) I (I + 1) := by
  constructor <;> (refine PySem.W.neN ?_; omega)
theorem zipS_item {z TI TO i1 i2 : Addr} {k : Nat} {x y : Str} {t u : Tok} {c d : Nat} {a b : Value} {Q : Value → Shared → Prop} (D : Ap z TI TO i1 i2)
    (hz : IsZip s.heap z TI TO .none) (hTI : IsPair s.heap TI (.ref i1) (.ref i2)) (hTO : IsPair s.heap TO a b) (h1 : SI s.heap i1 x t k) (h2 : SI s.heap i2 y u k) (hx : x.cps[k]? = some c) (hy : y.cps[k]? = some d)
    (hQ : ∀ h' tk (v w : Value), (∃ t, v = .str ⟨#[c]⟩ t) → (∃ t, w = .str ⟨#[d]⟩ t) → IsZip h' z TI TO (rawInt s.heap.objs.size) → IsPair h' TO v w → SI h' i1 x t (k + 1) → SI h' i2 y u (k + 1) → IsPair h' s.heap.objs.size v w → h'.objs.size = s.heap.objs.size + 1 →
      (∀ c o, c ≠ z → c ≠ TO → c ≠ i1 → c ≠ i2 → s.heap.get? c = some o → h'.get? c = some o) → Q (.ref s.heap.objs.size) { s with heap := h', toks := tk }) :
    wpAny (model prog w) A (Builtin.«zip.__next__» ⟨[.ref z], []⟩) (fun fin s' => ∃ v, fin = .done (.ret v) ∧ Q v s') E s := by
  show wpAny _ _ (field (.ref z) 2 >>= _) _ _ _
  refine wpAny_bind (wpAny_field hz rfl (x := .bool false) rfl ?_)
  show wpAny _ _ (field (.ref z) 3 >>= _) _ _ _
  refine wpAny_bind (wpAny_field hz rfl (x := .ref TI) rfl ?_)
  refine wpAny_bind (wpAny_seqItems hTI rfl ?_)
  show wpAny _ _ (Builtin.SmallTypes.ownedTupleIsFree (.ref z) >>= _) _ _ _
  refine wpAny_bind ?_
  unfold Builtin.SmallTypes.ownedTupleIsFree
  refine wpAny_bind (wpAny_field hz rfl (x := .none) rfl (wpAny_pure ?_))
  simp only [if_true]
  refine wpAny_bind (wpAny_rule ?_)
  refine wpAny_bind (wpAny_field hz rfl (x := .ref TO) rfl ?_)
  refine wpAny_bind (wpAny_setField_rec hz (by simp) fun h₁ hz₁ hs₁ => ?_)
  replace hz₁ : IsZip h₁ z TI TO .ellipsis := hz₁
  refine wpAny_bind ?_
  simp only [List.zipIdx_cons, List.zipIdx_nil, List.forIn_cons, List.forIn_nil]
  refine wpAny_bind (wpAny_bind (wpAny_onRaise ?_))
  show wpAny _ _ (Builtin.SmallTypes.nextOf (.ref i1) >>= _) _ _ _
  refine wpAny_bind (nextS_item (h1.ext hs₁.extBut D.i1z) hx fun h₂ h1₂ hs₂ => wpAny_pure ?_)
  have hTO₂ : IsPair h₂ TO a b := hs₂.extBut _ _ D.TOi1 (hs₁.extBut _ _ D.TOz hTO)
  refine wpAny_bind (wpAny_seqItems hTO₂ rfl ?_)
  refine wpAny_bind (wpAny_updateSeq_pair hTO₂ fun h₃ hTO₃ hs₃ => ?_)
  replace hTO₃ := show IsPair h₃ TO _ b from hTO₃
  refine wpAny_bind (wpAny_letGo (wpAny_pure ?_))
  refine wpAny_bind (wpAny_bind (wpAny_onRaise ?_))
  show wpAny _ _ (Builtin.SmallTypes.nextOf (.ref i2) >>= _) _ _ _
  refine wpAny_bind (nextS_item (((h2.ext hs₁.extBut D.i2z).ext hs₂.extBut D.i12.symm).ext hs₃.extBut D.TOi2.symm) hy fun h₄ h2₄ hs₄ => wpAny_pure ?_)
  have hTO₄ := show IsPair h₄ TO _ b from hs₄.extBut _ _ D.TOi2 hTO₃
  refine wpAny_bind (wpAny_seqItems hTO₄ rfl ?_)
  refine wpAny_bind (wpAny_updateSeq_pair hTO₄ fun h₅ hTO₅ hs₅ => ?_)
  replace hTO₅ := show IsPair h₅ TO _ _ from hTO₅
  refine wpAny_bind (wpAny_letGo (wpAny_pure (wpAny_pure ?_)))
  refine wpAny_bind (wpAny_seqItems hTO₅ rfl ?_)
  refine wpAny_bind (wpAny_newTuple ?_)
  have hsz : h₅.objs.size = s.heap.objs.size := by rw [hs₅.1, hs₄.1, hs₃.1, hs₂.1, hs₁.1]
  have hz₅ : IsZip h₅ z TI TO .ellipsis := hs₅.extBut _ _ D.TOz.symm (hs₄.extBut _ _ D.i2z.symm (hs₃.extBut _ _ D.TOz.symm (hs₂.extBut _ _ D.i1z.symm hz₁)))
  have hk₅ : ∀ c o, c ≠ z → c ≠ TO → c ≠ i1 → c ≠ i2 → s.heap.get? c = some o → h₅.get? c = some o := fun c o c1 c2 c3 c4 e =>
    hs₅.extBut _ _ c2 (hs₄.extBut _ _ c4 (hs₃.extBut _ _ c2 (hs₂.extBut _ _ c3 (hs₁.extBut _ _ c1 e))))
  have h1₅ : SI h₅ i1 x t (k + 1) := ((h1₂.ext hs₃.extBut D.TOi1.symm).ext hs₄.extBut D.i12).ext hs₅.extBut D.TOi1.symm
  have h2₅ : SI h₅ i2 y u (k + 1) := h2₄.ext hs₅.extBut D.TOi2.symm
  have hzlt : z < h₅.objs.size := Heap.lt_size hz₅
  show wpAny _ _ (Builtin.SmallTypes.ownedTupleHandOut (.ref z) (.ref h₅.objs.size) >>= _) _ _ _
  refine wpAny_bind ?_
  unfold Builtin.SmallTypes.ownedTupleHandOut
  refine wpAny_bind (wpAny_setField_rec (show IsZip _ z TI TO .ellipsis from Heap.get?_push_of_some _ hz₅) (by simp) fun h₇ hz₇ hs₇ => ?_)
  replace hz₇ : IsZip h₇ z TI TO (rawInt h₅.objs.size) := hz₇
  refine wpAny_setField_rec hz₇ (by simp) fun h₈ hz₈ hs₈ => ?_
  replace hz₈ : IsZip h₈ z TI TO (rawInt h₅.objs.size) := hz₈
  have up : ∀ c o, c ≠ z → h₅.get? c = some o → h₈.get? c = some o := fun c o c1 e => hs₈.extBut _ _ c1 (hs₇.extBut _ _ c1 (Heap.get?_push_of_some _ e))
  have hT₈ := hs₈.extBut _ _ (Nat.ne_of_gt hzlt) (hs₇.extBut _ _ (Nat.ne_of_gt hzlt) (Heap.get?_push_size _ rfl))
  have hz8 : h₈.objs.size = h₅.objs.size + 1 := by rw [hs₈.1, hs₇.1, Heap.size_push]
  rw [hsz] at hz₈ hT₈ hz8
  refine wpAny_pure ⟨_, rfl, ?_⟩
  show Q (.ref h₅.objs.size) _
  rw [hsz]
  exact hQ h₈ _ _ _ ⟨_, rfl⟩ ⟨_, rfl⟩ hz₈ (up _ _ D.TOz hTO₅) (h1₅.at fun o e => up _ o D.i1z e) (h2₅.at fun o e => up _ o D.i2z e) hT₈ hz8 fun c o c1 c2 c3 c4 e => up c o c1 (hk₅ c o c1 c2 c3 c4 e)
theorem zipS_end {z TI TO i1 i2 : Addr} {k : Nat} {x y : Str} {t u : Tok} {a b : Value} {Q : Fin → Shared → Prop} (hh : A.handled = none) (D : Ap z TI TO i1 i2)
    (hz : IsZip s.heap z TI TO .none) (hTI : IsPair s.heap TI (.ref i1) (.ref i2)) (hTO : IsPair s.heap TO a b) (h1 : SI s.heap i1 x t k) (h2 : SI s.heap i2 y u k) (hend : x.cps[k]? = none ∨ y.cps[k]? = none)
    (hE : ∀ h' tk e, (∀ c o, c ≠ z → c ≠ TO → c ≠ i1 → c ≠ i2 → s.heap.get? c = some o → h'.get? c = some o) → (∃ o, h'.get? e = some o ∧ o.cls = .type "StopIteration") → E (.ref e) { s with heap := h', toks := tk }) :
    wpAny (model prog w) A (Builtin.«zip.__next__» ⟨[.ref z], []⟩) Q E s := by
  show wpAny _ _ (field (.ref z) 2 >>= _) _ _ _
  refine wpAny_bind (wpAny_field hz rfl (x := .bool false) rfl ?_)
  show wpAny _ _ (field (.ref z) 3 >>= _) _ _ _
  refine wpAny_bind (wpAny_field hz rfl (x := .ref TI) rfl ?_)
  refine wpAny_bind (wpAny_seqItems hTI rfl ?_)
  show wpAny _ _ (Builtin.SmallTypes.ownedTupleIsFree (.ref z) >>= _) _ _ _
  refine wpAny_bind ?_
  unfold Builtin.SmallTypes.ownedTupleIsFree
  refine wpAny_bind (wpAny_field hz rfl (x := .none) rfl (wpAny_pure ?_))
  simp only [if_true]
  refine wpAny_bind (wpAny_rule ?_)
  refine wpAny_bind (wpAny_field hz rfl (x := .ref TO) rfl ?_)
  refine wpAny_bind (wpAny_setField_rec hz (by simp) fun h₁ hz₁ hs₁ => ?_)
  replace hz₁ : IsZip h₁ z TI TO .ellipsis := hz₁
  refine wpAny_bind ?_
  simp only [List.zipIdx_cons, List.zipIdx_nil, List.forIn_cons, List.forIn_nil]
  refine wpAny_bind (wpAny_bind (wpAny_onRaise ?_))
  show wpAny _ _ (Builtin.SmallTypes.nextOf (.ref i1) >>= _) _ _ _
  cases hx : x.cps[k]? with
  | none =>
    refine wpAny_bind (nextS_end hh (h1.ext hs₁.extBut D.i1z) hx fun h₂ e hs₂ he => ?_)
    obtain ⟨oe, hoe, hce⟩ := he
    have hz₂ : IsZip h₂ z TI TO .ellipsis := hs₂ _ _ D.i1z.symm hz₁
    have hez : e ≠ z := fun x => by subst x; rw [hz₂] at hoe; cases hoe; simp at hce
    refine wpAny_setField_rec hz₂ (by simp) fun h₃ _ hs₃ => hE h₃ _ e (fun c o c1 _ c3 _ x => hs₃.extBut _ _ c1 (hs₂ _ _ c3 (hs₁.extBut _ _ c1 x))) ⟨oe, hs₃.extBut _ _ hez hoe, hce⟩
  | some c =>
    have hy : y.cps[k]? = none := by rcases hend with h | h; rw [hx] at h; cases h; exact h
    refine wpAny_bind (nextS_item (h1.ext hs₁.extBut D.i1z) hx fun h₂ h1₂ hs₂ => wpAny_pure ?_)
    have hTO₂ : IsPair h₂ TO a b := hs₂.extBut _ _ D.TOi1 (hs₁.extBut _ _ D.TOz hTO)
    refine wpAny_bind (wpAny_seqItems hTO₂ rfl ?_)
    refine wpAny_bind (wpAny_updateSeq_pair hTO₂ fun h₃ hTO₃ hs₃ => ?_)
    refine wpAny_bind (wpAny_letGo (wpAny_pure ?_))
    refine wpAny_bind (wpAny_bind (wpAny_onRaise ?_))
    show wpAny _ _ (Builtin.SmallTypes.nextOf (.ref i2) >>= _) _ _ _
    refine wpAny_bind (nextS_end hh (((h2.ext hs₁.extBut D.i2z).ext hs₂.extBut D.i12.symm).ext hs₃.extBut D.TOi2.symm) hy fun h₄ e hs₄ he => ?_)
    obtain ⟨oe, hoe, hce⟩ := he
    have hz₄ : IsZip h₄ z TI TO .ellipsis := hs₄ _ _ D.i2z.symm (hs₃.extBut _ _ D.TOz.symm (hs₂.extBut _ _ D.i1z.symm hz₁))
    have hez : e ≠ z := fun x => by subst x; rw [hz₄] at hoe; cases hoe; simp at hce
    refine wpAny_setField_rec hz₄ (by simp) fun h₅ _ hs₅ => hE h₅ _ e (fun c o c1 c2 c3 c4 x => hs₅.extBut _ _ c1 (hs₄ _ _ c4 (hs₃.extBut _ _ c2 (hs₂.extBut _ _ c3 (hs₁.extBut _ _ c1 x))))) ⟨oe, hs₅.extBut _ _ hez hoe, hce⟩
theorem next_item {z TI TO i1 i2 : Addr} {k : Nat} {x y : Str} {t u : Tok} {c d : Nat} {a b : Value} {Q : Option Value → Shared → Prop} (D : Ap z TI TO i1 i2)
    (hz : IsZip s.heap z TI TO .none) (hTI : IsPair s.heap TI (.ref i1) (.ref i2)) (hTO : IsPair s.heap TO a b) (h1 : SI s.heap i1 x t k) (h2 : SI s.heap i2 y u k) (hx : x.cps[k]? = some c) (hy : y.cps[k]? = some d)
    (hQ : ∀ h' tk (v w : Value), (∃ t, v = .str ⟨#[c]⟩ t) → (∃ t, w = .str ⟨#[d]⟩ t) → IsZip h' z TI TO (rawInt s.heap.objs.size) → IsPair h' TO v w → SI h' i1 x t (k + 1) → SI h' i2 y u (k + 1) → IsPair h' s.heap.objs.size v w → h'.objs.size = s.heap.objs.size + 1 →
      (∀ c o, c ≠ z → c ≠ TO → c ≠ i1 → c ≠ i2 → s.heap.get? c = some o → h'.get? c = some o) → Q (some (.ref s.heap.objs.size)) { s with heap := h', toks := tk }) :
    wpAny (model prog w) A (pyNext (.ref z)) Q E s := by
  have hT : s.TypeIs (.ref z) "zip" := ⟨_, hz, rfl⟩
  unfold pyNext
  exact wpAny_bind (wpAny_attempt (wpAny_callSpecial?_slot (name := Str.ofString "__next__") hT F.slot_zip_next
    (wpAny_call_entry F.slot_zip_next hT F.entry_zip_next
      (zipS_item D hz hTI hTO h1 h2 hx hy fun h' tk v w a1 a2 a3 a4 a5 a6 a7 a8 a9 => wpAny_pure (hQ h' tk v w a1 a2 a3 a4 a5 a6 a7 a8 a9)) (F.args_zip_next_1 _))))
theorem next_end {z TI TO i1 i2 : Addr} {k : Nat} {x y : Str} {t u : Tok} {a b : Value} {Q : Option Value → Shared → Prop} (hh : A.handled = none) (D : Ap z TI TO i1 i2)
    (hz : IsZip s.heap z TI TO .none) (hTI : IsPair s.heap TI (.ref i1) (.ref i2)) (hTO : IsPair s.heap TO a b) (h1 : SI s.heap i1 x t k) (h2 : SI s.heap i2 y u k) (hend : x.cps[k]? = none ∨ y.cps[k]? = none)
    (hQ : ∀ h' tk, (∀ c o, c ≠ z → c ≠ TO → c ≠ i1 → c ≠ i2 → s.heap.get? c = some o → h'.get? c = some o) → Q none { s with heap := h', toks := tk }) : wpAny (model prog w) A (pyNext (.ref z)) Q E s := by
  have hT : s.TypeIs (.ref z) "zip" := ⟨_, hz, rfl⟩
  unfold pyNext
  refine wpAny_bind (wpAny_attempt (wpAny_callSpecial?_slot (name := Str.ofString "__next__") hT F.slot_zip_next
    (wpAny_call_entry F.slot_zip_next hT F.entry_zip_next (zipS_end hh D hz hTI hTO h1 h2 hend fun h' tk e hk he => ?_) (F.args_zip_next_1 _))))
  obtain ⟨o, ho, hc⟩ := he
  refine wpAny_bind (wpAny_isInstance (T := "StopIteration") (b := true) ⟨o, ho, hc⟩ isSubtype_stop ?_)
  exact wpAny_pure (hQ _ _ hk)
end
abbrev H1 (h : Heap) (x : Str) (t : Tok) : Heap := h.push { cls := .type "str_ascii_iterator", data := .fields #[.str x t, .int 0 0] }
abbrev H2 (h : Heap) (x y : Str) (t u : Tok) : Heap := (H1 h x t).push { cls := .type "str_ascii_iterator", data := .fields #[.str y u, .int 0 0] }
abbrev H3 (h : Heap) (x y : Str) (t u : Tok) : Heap := (H2 h x y t u).push { cls := .type "tuple", data := .seq #[.ref h.objs.size, .ref (H1 h x t).objs.size] }
abbrev H4 (h : Heap) (x y : Str) (t u : Tok) : Heap := (H3 h x y t u).push { cls := .type "tuple", data := .seq #[.none, .none] }
abbrev H5 (h : Heap) (x y : Str) (t u : Tok) : Heap := (H4 h x y t u).push { cls := .type "zip", data := .fields #[.none, .bool false, .bool false, .ref (H2 h x y t u).objs.size, .ref (H3 h x y t u).objs.size] }
theorem meets_new (x y : Str) (t u : Tok) (hx : x.cps.all (· < 128) = true) (hy : y.cps.all (· < 128) = true) :
    Meets (Builtin.«zip.__new__» ⟨[.type "zip", .str x t, .str y u], []⟩) (fun _ R s => R (.ok (.ret (.ref (H4 s.heap x y t u).objs.size))) { s with heap := H5 s.heap x y t u }) :=
  .of_wp fun prog w A R s h => by
    obtain ⟨hp, g, d, tk, os⟩ := s
    have hsub := sub_zip
    wp_walk using wpAny_pyIter_ascii hx, wpAny_pyIter_ascii hy
    exact ⟨_, rfl, h⟩
section
variable {prog : Program} {w : World} {A : Around} {E : Value → Shared → Prop} {s : Shared}
theorem call_new {x y : Str} {t u : Tok} {Q : Value → Shared → Prop} (hx : x.cps.all (· < 128) = true) (hy : y.cps.all (· < 128) = true)
    (h : ∀ h', IsZip h' (s.heap.objs.size + 4) (s.heap.objs.size + 2) (s.heap.objs.size + 3) .none → IsPair h' (s.heap.objs.size + 2) (.ref s.heap.objs.size) (.ref (s.heap.objs.size + 1)) →
      IsPair h' (s.heap.objs.size + 3) .none .none → SI h' s.heap.objs.size x t 0 → SI h' (s.heap.objs.size + 1) y u 0 → h'.objs.size = s.heap.objs.size + 5 →
      (∀ c o, s.heap.get? c = some o → h'.get? c = some o) → Q (.ref (s.heap.objs.size + 4)) { s with heap := h' }) :
    wpAny (model prog w) A (call (.type "zip") [.str x t, .str y u]) Q E s := by
  refine callType_new F.called_zip (by decide) (F.typeCall_zip_2 _ _) (F.newCall_zip_2 _ _) (fun obj => F.args_object_init_3 obj _ _) F.entry_zip_new
    (meets_new x y t u hx hy) ?_
  have z1 : (H1 s.heap x t).objs.size = s.heap.objs.size + 1 := Heap.size_push ..
  have z2 : (H2 s.heap x y t u).objs.size = s.heap.objs.size + 2 := by rw [Heap.size_push, z1]
  have z3 : (H3 s.heap x y t u).objs.size = s.heap.objs.size + 3 := by rw [Heap.size_push, z2]
  have z4 : (H4 s.heap x y t u).objs.size = s.heap.objs.size + 4 := by rw [Heap.size_push, z3]
  have z5 : (H5 s.heap x y t u).objs.size = s.heap.objs.size + 5 := by rw [Heap.size_push, z4]
  have g5 : (H5 s.heap x y t u).get? (H4 s.heap x y t u).objs.size = some _ := Heap.get?_push_size _ rfl
  have g4 : (H5 s.heap x y t u).get? (H3 s.heap x y t u).objs.size = some _ := Heap.get?_push_of_some _ (Heap.get?_push_size _ rfl)
  have g3 : (H5 s.heap x y t u).get? (H2 s.heap x y t u).objs.size = some _ := Heap.get?_push_of_some _ (Heap.get?_push_of_some _ (Heap.get?_push_size _ rfl))
  have g2 : (H5 s.heap x y t u).get? (H1 s.heap x t).objs.size = some _ := Heap.get?_push_of_some _ (Heap.get?_push_of_some _ (Heap.get?_push_of_some _ (Heap.get?_push_size _ rfl)))
  have g1 : (H5 s.heap x y t u).get? s.heap.objs.size = some _ := Heap.get?_push_of_some _ (Heap.get?_push_of_some _ (Heap.get?_push_of_some _ (Heap.get?_push_of_some _ (Heap.get?_push_size _ rfl))))
  show _ ∧ _
  rw [z2, z3, z4] at g5
  rw [z1, z2] at g3
  rw [z3] at g4
  rw [z1] at g2
  rw [z4]
  exact ⟨⟨_, g5, rfl⟩, h _ g5 g3 g4 ⟨_, g1, rfl, rfl⟩ ⟨_, g2, rfl, rfl⟩ z5 fun c o x =>
    Heap.get?_push_of_some _ (Heap.get?_push_of_some _ (Heap.get?_push_of_some _ (Heap.get?_push_of_some _ (Heap.get?_push_of_some _ x))))⟩
end
/-- the signs of x and y, in new pairs -/
def Itz2 (x y : Str) : It :=
  ⟨fun i _ => i < x.cps.size ∧ i < y.cps.size,
    fun i H v H' => ∃ T c d, v = .ref T ∧ H T = none ∧ H' = upd H T (.tup [.str ⟨#[c]⟩, .str ⟨#[d]⟩]) ∧ x.cps[i]? = some c ∧ y.cps[i]? = some d,
    fun i _ => x.cps.size ≤ i ∨ y.cps.size ≤ i⟩
theorem turn_zip2 {P : Program} {w : World} {K : PySem.W.Frag} {elts : List Expr} {kk : Nat} {tpos : Pos} {z TI TO i1 i2 : Addr} {x y : Str} {t u : Tok} (D : Ap z TI TO i1 i2) :
    Turn P w K (.Tuple elts kk tpos) (Itz2 x y) [z, TI, TO, i1, i2] z (fun i h => IsZip h z TI TO .none ∧ IsPair h TI (.ref i1) (.ref i2) ∧ (∃ a b, IsPair h TO a b) ∧ SI h i1 x t i ∧ SI h i2 y u i) where
  mem := by simp
  obj := fun i h st c hc => by
    obtain ⟨hz, hTI, ⟨a, b, hTO⟩, ⟨o1, e1, _, d1⟩, ⟨o2, e2, _, d2⟩⟩ := st
    have e' : c = z ∨ c = TI ∨ c = TO ∨ c = i1 ∨ c = i2 := by simpa using hc
    rcases e' with q | q | q | q | q
    · rw [q]; exact ⟨_, hz, fun v q => nomatch q⟩
    · rw [q]; exact ⟨_, hTI, fun v q => nomatch q⟩
    · rw [q]; exact ⟨_, hTO, fun v q => nomatch q⟩
    · rw [q]; exact ⟨o1, e1, fun v q => by rw [d1] at q; cases q⟩
    · rw [q]; exact ⟨o2, e2, fun v q => by rw [d2] at q; cases q⟩
  keep := fun i h h' st k => by
    obtain ⟨hz, hTI, ⟨a, b, hTO⟩, h1, h2⟩ := st
    exact ⟨k z (by simp) _ hz, k TI (by simp) _ hTI, ⟨a, b, k TO (by simp) _ hTO⟩, h1.at fun o q => k i1 (by simp) o q, h2.at fun o q => k i2 (by simp) o q⟩
  item := by
    intro X hP hw hK hc i pins s σ H E I hf st hg
    subst hP hw hK
    obtain ⟨hz, hTI, ⟨a, b, hTO⟩, h1, h2⟩ := st
    obtain ⟨lx, ly⟩ := hg
    have hx : x.cps[i]? = some x.cps[i] := Array.getElem?_eq_getElem lx
    have hy : y.cps[i]? = some y.cps[i] := Array.getElem?_eq_getElem ly
    have hzl : z < s.heap.objs.size := Heap.lt_size hz
    refine next_item D hz hTI hTO h1 h2 hx hy fun h' tk v w rv rw' z' TO' h1' h2' hT hsz hk => ?_
    refine ⟨_, rfl, wpAny_letOwnedTupleGo_zip (s := { s with heap := h', toks := tk }) z' fun h'' z'' sb => ?_⟩
    have hT2 : h''.get? s.heap.objs.size = some { cls := .type "tuple", data := .seq #[v, w] } := (sb.2 _ (Nat.ne_of_gt hzl)).trans hT
    have new : ObjOk X.prog X.w (upd H s.heap.objs.size (.tup [.str ⟨#[x.cps[i]]⟩, .str ⟨#[y.cps[i]]⟩])) h'' s.heap.objs.size (.tup [.str ⟨#[x.cps[i]]⟩, .str ⟨#[y.cps[i]]⟩]) :=
      ⟨by show 2 ≤ sizeLine; decide, [v, w], .cons rv (.cons rw' .nil), ⟨_, hT2, rfl, _, rfl⟩⟩
    have I1 : Inv X pins σ (upd H s.heap.objs.size (.tup [.str ⟨#[x.cps[i]]⟩, .str ⟨#[y.cps[i]]⟩])) { s with heap := h'', toks := tk } :=
      I.turnedNew (t' := tk) (ch := [z, TI, TO, i1, i2]) (fun c o hb q => (sb.2 c (fun q' => hb (by simp [q']))).trans (hk c o (fun q' => hb (by simp [q'])) (fun q' => hb (by simp [q'])) (fun q' => hb (by simp [q'])) (fun q' => hb (by simp [q'])) q)) hf (Nat.le_refl _) new
    refine ⟨.ref s.heap.objs.size, _, I1, rfl, ⟨_, _, _, rfl, I.hok.fresh (Nat.le_refl _), rfl, hx, hy⟩, ⟨z'', ?_, ⟨v, w, ?_⟩, ?_, ?_⟩, fun c hcm => ?_⟩
    · exact (sb.2 _ D.TIz).trans (hk _ _ D.TIz D.TITO D.TIi1 D.TIi2 hTI)
    · exact (sb.2 _ D.TOz).trans TO'
    · exact h1'.at fun o q => (sb.2 _ D.i1z).trans q
    · exact h2'.at fun o q => (sb.2 _ D.i2z).trans q
    · have hlt : c < s.heap.objs.size := by
        have e' : c = z ∨ c = TI ∨ c = TO ∨ c = i1 ∨ c = i2 := by simpa using hcm
        rcases e' with q | q | q | q | q
        · rw [q]; exact hzl
        · rw [q]; exact Heap.lt_size hTI
        · rw [q]; exact Heap.lt_size hTO
        · rw [q]; obtain ⟨_, e1, _⟩ := h1; exact Heap.lt_size e1
        · rw [q]; obtain ⟨_, e2, _⟩ := h2; exact Heap.lt_size e2
      rw [upd_ne (Nat.ne_of_lt hlt)]
      exact (hf c hcm).1
  done := by
    intro X hP hw hK hc i pins s σ H E I hf st hg
    subst hP hw hK
    obtain ⟨hz, hTI, ⟨a, b, hTO⟩, h1, h2⟩ := st
    have he : x.cps[i]? = none ∨ y.cps[i]? = none := hg.elim (fun q => .inl (Array.getElem?_eq_none q)) fun q => .inr (Array.getElem?_eq_none q)
    exact next_end (I.ok.hd hc) D hz hTI hTO h1 h2 he fun h' tk hk => ⟨rfl, I.turnedL (t' := tk) (ch := [z, TI, TO, i1, i2]) (fun c o hb q =>
      hk c o (fun q' => hb (by simp [q'])) (fun q' => hb (by simp [q'])) (fun q' => hb (by simp [q'])) (fun q' => hb (by simp [q'])) q) hf⟩
  self := fun A i s Q E st h => wpAny_pyIter_zip st.1 h
def iZip2 (ta : TA) : TI := fun σ H R => ta σ H fun vs H1 => ∃ x y, vs = [.str x, .str y] ∧ x.cps.all (· < 128) = true ∧ y.cps.all (· < 128) = true ∧ R (Itz2 x y) H1
theorem pi_zip2 {X : Cx} {e e2 : Expr} {ta : TA} {p pos tpos : Pos} {elts : List Expr} {kk : Nat} (hg : Gl X "zip") (hm : X.mg "zip" = none) (ha : PA X [e, e2] ta)
    (hs : starEach [e, e2] X.env = (false, eval e X.env) :: starEach [e2] X.env := by rfl) (hpl : (backTo pos (starEach [e2] X.env)).any (·.1) = false := by rfl) :
    PI X (.Tuple elts kk tpos) (.Call (.Name "zip" p) [e, e2] [] pos) (iZip2 ta) := by
  refine ⟨fun pins s σ H R I h => ?_⟩
  refine Call_ (ld_blt I hg hm PyProof.Rows.boot_zip (PyProof.Rows.callWith_type1 (thn (ha.run pos pins s σ H _ I h) fun us s1 ⟨vs, H1, I1, r1, q1⟩ => ?_) hs hpl))
  obtain ⟨x, y, ex, ax, ay, q⟩ := q1
  subst ex
  cases r1 with
  | cons r rr =>
    cases rr with
    | cons r' rr =>
      cases rr
      obtain ⟨t, rfl⟩ := r
      obtain ⟨u, rfl⟩ := r'
      refine call_new ax ay fun h' hz hTI hTO h1 h2 hsz hk => wpAny_pyIter_zip hz ?_
      have I2 : Inv X pins σ H1 { s1 with heap := h' } := I1.kept (t' := s1.toks) hk
      refine ⟨s1.heap.objs.size + 4, [s1.heap.objs.size + 4, s1.heap.objs.size + 2, s1.heap.objs.size + 3, s1.heap.objs.size, s1.heap.objs.size + 1], _, _, H1, rfl, I2, turn_zip2 (ap_new s1.heap.objs.size), ⟨hz, hTI, ⟨_, _, hTO⟩, h1, h2⟩, fun c hcm => ?_, q⟩
      have hle : s1.heap.objs.size ≤ c := by
        have e' : c = s1.heap.objs.size + 4 ∨ c = s1.heap.objs.size + 2 ∨ c = s1.heap.objs.size + 3 ∨ c = s1.heap.objs.size ∨ c = s1.heap.objs.size + 1 := by simpa using hcm
        rcases e' with z | z | z | z | z
        · rw [z]; exact Nat.le_add_right _ _
        · rw [z]; exact Nat.le_add_right _ _
        · rw [z]; exact Nat.le_add_right _ _
        · rw [z]; exact Nat.le_refl _
        · rw [z]; exact Nat.le_add_right _ _
      exact I1.fpOk hle (I1.hok.fresh hle)
end ZS
namespace G
open PySem PySem.Spec PySem.Calls PyProof.Rows L2
section
variable {X : Cx} {CX : CXT} {k : Nat} {C p g : Addr} {mc : Value} {sp : Sp} {E : XK} {o e : Expr} {es : List Expr} {f m : Str} {pos apos : Pos} {ta : TE} {pl : Sem Bool} {fd : FuncData} {ps : List Str} {dvs : List V} {ds : List Value}
/-- C.m(), m a static method -/
theorem pe_smeth0 (he : PE X o ta) (r : ClX.CRead X.K C mc) (c : SMet X.K C mc m g) (F : FnG X.prog X.w X.K X.mg X.base CX k g fd ps sp) (hr : RoomG k X.A) (hb : Binds X.K fd ps ds) (hd : Vals dvs ds) (hx : Passes CX X E)
    (ht : eval (.Call (.Attribute o m apos) [] [] pos) X.env = (do
      let ov ← eval o X.env
      standAt apos.atName
      let (f, first) ← holding [ov] (getMethod ov m pl)
      callWith pos f first (backTo pos (starEach [] X.env)) (backToKw pos (keywordEach [] X.env))) := by rfl) :
    PE X (.Call (.Attribute o m apos) [] [] pos) (tSM C sp dvs E ta tNil) := by
  refine ⟨fun pins s σ H Q I h => ?_⟩
  refine PySem.W.methodCall_KW (pl := pl) (thn (he.run pins s σ H _ I h) fun u s1 ⟨x, H1, I1, rx, ex, q⟩ => ?_) ht
  subst ex
  obtain rfl : u = Value.ref C := rx
  obtain ⟨p, rest, h1, h2⟩ := c.ex
  refine PySem.W.method_cls I1.kIn r.ga (PySem.W.cls_bind I1.kIn r.rd h1 (wpAny_call (PySem.W.sm_get (s := { s1 with toks := s1.toks + 1 }) I1.kIn h2 (PySem.W.handed_on rfl ?_))))
  have I2 := I1.tok (s1.toks + 1)
  exact PySem.W.callWith_K0 (first := []) I2.kIn c.kp (run_fnG (us := []) (vs := []) F hr hb hd hx I2 .nil q)
end
/-! ### constants of a class, texts of the module -/
section
variable {ex : List ExB} {fn : List He5.DefA} {K : PySem.W.Frag} {mg : Str → Option Value}
def cintB (x f : Str) (i : Int) : ExB := fun K => match PySem.W.findCls K (.ref (He.ga K x)) (.type "type") f with
  | some (.val (.int j _)) => decide (i = j)
  | _ => false
theorem cintB_ok {x f : Str} {i : Int} (h : cintB x f i K = true) : ∃ u, ClX.CVal K (He.ga K x) (.type "type") f (.int i) u := by
  unfold cintB at h
  split at h
  · rename_i j t e
    have := of_decide_eq_true h
    subst this
    exact ⟨_, e, ⟨_, rfl⟩⟩
  · cases h
def gstrB (x : Str) (i : Str) : ExB := fun K => match PySem.W.nsIn K mainGlobals x with
  | some (some (.str j _)) => decide (i = j)
  | _ => false
theorem gstr_ok (T : Txt ex fn K mg) (n : Nat) (x : Str) {i : Str} (h : ex[n]? = some (gstrB x i)) : ∃ u, mg x = some (.str i u) := by
  have c := T.fact n h
  unfold gstrB at c
  split at c
  · rename_i j u e
    have := of_decide_eq_true c
    subst this
    exact ⟨u, T.glo x _ e⟩
  · cases c
/-- C.f, a constant -/
def tCK (K : PySem.W.Frag) (v : V) (ta : TE) (C : Addr) : TE := fun σ H Q => ta σ H fun x H1 => x = .ref C ∧ Q v H1
end
section
variable {X : Cx} {C : Addr} {e : Expr} {f : Str} {ta : TE} {pos : Pos} {v : V}
theorem pe_ck (he : PE X e ta) (r : ClX.CRead X.K C (.type "type")) (c : ∃ u, ClX.CVal X.K C (.type "type") f v u) (hb : attributeBase e f X.env (eval e X.env) = eval e X.env := by rfl) : PE X (.Attribute e f pos) (tCK X.K v ta C) := by
  refine ⟨fun pins s σ H Q I h => ?_⟩
  obtain ⟨w, c⟩ := c
  refine attr_of hb (thn (he.run pins s σ H _ I h) fun u s1 ⟨x, H1, I1, rx, ex, q⟩ => ?_)
  subst ex
  obtain rfl : u = Value.ref C := rx
  exact ClX.getcval_ok I1 r c fun s2 I2 => ⟨v, H1, I2, c.rel, q⟩
end
/-! ### a, b, .. = a text in ASCII of that length -/
section
variable {prog : Program} {w : World} {A : Around} {E : Value → Shared → Prop} {s : Shared}
abbrev signs (x : Str) : List V := x.cps.toList.map fun c => .str ⟨#[c]⟩
theorem drawS {it : Addr} {x : Str} {t : Tok} : ∀ (n i : Nat) (s : Shared) (Q : List Value → Shared → Prop), ZS.SI s.heap it x t i → i + n ≤ x.cps.size →
    (∀ h' tk us, ZS.SI h' it x t (i + n) → Heap.SameBut it s.heap h' → Vals ((signs x).drop i |>.take n) us → Q us { s with heap := h', toks := tk }) → wpAny (model prog w) A (draw (.ref it) n) Q E s
  | 0, i, s, Q, hit, _, hQ => by
    show wpAny _ _ (pure []) Q E s
    exact wpAny_pure (by have := hQ s.heap s.toks [] (by simpa using hit) (Heap.SameBut.refl ..) (by rw [List.take_zero]; exact .nil); exact this)
  | n + 1, i, s, Q, hit, hle, hQ => by
    have hlt : i < x.cps.size := by omega
    show wpAny _ _ (pyNext (.ref it) >>= _) Q E s
    refine wpAny_bind (wpAny_pyNext_ascii_item hit (c := x.cps[i]) (by simp [hlt]) fun h₁ hit₁ hs₁ => ?_)
    refine wpAny_bind (wpAny_holding (drawS n (i + 1) _ _ hit₁ (by omega) fun h₂ tk us hit₂ hs₂ r => wpAny_pure ?_))
    have hd : (signs x).drop i = .str ⟨#[x.cps[i]]⟩ :: (signs x).drop (i + 1) := by simp [signs, List.drop_eq_getElem_cons, hlt]
    have := hQ h₂ tk (.str ⟨#[x.cps[i]]⟩ s.toks :: us) (by rw [show i + (n + 1) = i + 1 + n by omega]; exact hit₂) (hs₁.trans hs₂) (by rw [hd, List.take_succ_cons]; exact .cons ⟨_, rfl⟩ r)
    exact this
theorem itemsS {x : Str} {t : Tok} {n : Nat} {Q : List Value → Shared → Prop} (hh : A.handled = none) (ha : x.cps.all (· < 128) = true) (hn : x.cps.size = n)
    (hQ : ∀ h' tk us, Heap.ExtBut s.heap.objs.size s.heap h' → Vals (signs x) us → Q us { s with heap := h', toks := tk }) : wpAny (model prog w) A (unpackItems (.str x t) n none) Q E s := by
  unfold unpackItems
  refine wpAny_bind ?_
  unfold notIterableAtAll
  refine wpAny_bind (wpAny_specialOf (typeIs_str s x t) F.slot_str_iter.lookup ?_)
  refine wpAny_pure ?_
  simp only [Bool.false_eq_true, if_false]
  refine wpAny_bind (wpAny_holding (wpAny_pyIter_ascii ha ?_))
  refine wpAny_bind (wpAny_holding (drawS n 0 _ _ ⟨_, Heap.get?_push_size _ rfl, rfl, rfl⟩ (by omega) fun h₁ tk us hit₁ hs₁ r => ?_))
  have ls : (signs x).length = n := by simp [signs, hn]
  have hall : List.take n (List.drop 0 (signs x)) = signs x := by
    rw [List.drop_zero]; exact List.take_of_length_le (by omega)
  rw [hall] at r
  have lu : us.length = n := by rw [← r.length]; exact ls
  rw [if_neg (by omega)]
  refine wpAny_bind (wpAny_holding (wpAny_pyNext_ascii_end hh hit₁ (by simp; omega) fun h₂ he₂ => ?_))
  simp only [Option.isSome_none, Bool.false_eq_true, if_false]
  exact wpAny_pure (hQ h₂ _ us (fun b o hb e => he₂ b o hb (hs₁.extBut b o hb (Heap.get?_push_of_some _ e))) r)
end
def gStr (n : Nat) (t : TGs) : TG := fun v σ H Q => ∃ x : Str, v = .str x ∧ x.cps.size = n ∧ x.cps.all (· < 128) = true ∧ t (signs x) σ H Q
section
variable {X : Cx} {pos : Pos}
theorem pg_str {es : List Expr} {k : Nat} {t : TGs} {n : Nat} (hc : X.calm = true) (h : PGs X es t)
    (hn : (assignEach es X.env).length = n := by rfl) (hst : (assignEach es X.env).findIdx? (·.1) = none := by rfl) : PG X (.Tuple es k pos) (gStr n t) := by
  refine ⟨fun pins s σ H v u Q I r hw => ?_⟩
  obtain ⟨x, e1, hz, ha, hw⟩ := hw
  subst e1
  obtain ⟨tk, rfl⟩ := (show ∃ t, u = Value.str x t from r)
  rw [PyProof.Rows.assign_Tuple]
  refine wpAny_bind (wpAny_standAt ?_)
  unfold unpack
  rw [hn, hst]
  refine wpAny_bind (wpAny_holding (itemsS (I.ok.hd hc) ha hz fun h' tk us hx r => ?_))
  have I1 : Inv X pins σ H { s with heap := h', toks := tk } := I.kept (t' := tk) fun b o e => hx b o (Nat.ne_of_lt (Heap.lt_size e)) e
  exact h.run pins _ σ H _ _ Q I1 r hw
end
end G
namespace G
open PySem PySem.Spec PySem.Calls PyProof.Rows L2
/-! ### == and != of lists whose items are compared by their own defs (the heap may change elsewhere) -/
structure IsL (s : Shared) (l : Addr) (items : Array Value) : Prop where
  ex : ∃ dd n sl, s.heap.get? l = some { cls := Value.type "list", dict := dd, data := Data.seq items n, slots := sl }
def HasL (s : Shared) (l b : Addr) (z : Nat) : Prop := ∃ i1 i2, IsL s l i1 ∧ IsL s b i2 ∧ i1.size = z ∧ i2.size = z
def EqSteps (M : Model) (A : Around) (E : Value → Shared → Prop) (l b : Addr) (z : Nat) : Nat → Nat → (Bool → Shared → Prop) → Shared → Prop
  | 0, _, Q, s => HasL s l b z ∧ Q true s
  | k + 1, i, Q, s => ∃ i1 i2 x y, IsL s l i1 ∧ IsL s b i2 ∧ i1.size = z ∧ i2.size = z ∧ i1[i]? = some x ∧ i2[i]? = some y ∧ wpAny M A.in1 (eqBool x y) (fun c s' => if c = true then EqSteps M A E l b z k (i + 1) Q s' else HasL s' l b z ∧ Q false s') E s
theorem EqSteps.has {M : Model} {A : Around} {E : Value → Shared → Prop} {l b : Addr} {z k i : Nat} {Q : Bool → Shared → Prop} {s : Shared} (h : EqSteps M A E l b z k i Q s) : HasL s l b z := by
  cases k with
  | zero => exact h.1
  | succ k => exact let ⟨i1, i2, _, _, h1, h2, h3, h4, _⟩ := h; ⟨i1, i2, h1, h2, h3, h4⟩
theorem EqSteps.mono {M : Model} {A : Around} {E : Value → Shared → Prop} {l b : Addr} {z : Nat} {Q Q' : Bool → Shared → Prop} (hq : ∀ c s, Q c s → Q' c s) : ∀ {k i : Nat} {s : Shared}, EqSteps M A E l b z k i Q s → EqSteps M A E l b z k i Q' s
  | 0, _, _, h => ⟨h.1, hq _ _ h.2⟩
  | k + 1, i, s, ⟨i1, i2, x, y, h1, h2, h3, h4, h5, h6, h7⟩ => ⟨i1, i2, x, y, h1, h2, h3, h4, h5, h6, wpAny_mono h7 (fun c s' h => by
      cases c
      · exact ⟨h.1, hq _ _ h.2⟩
      · exact EqSteps.mono hq h) fun _ _ e => e⟩
theorem wp_items {M : Model} {A : Around} {E : Value → Shared → Prop} {Q : Array Value → Shared → Prop} {s : Shared} {l : Addr} {items : Array Value} (hl : IsL s l items) (h : Q items s) : wpAny M A (Builtin.List.listItems (.ref l)) Q E s := by
  obtain ⟨dd, n, sl, hl⟩ := hl.ex
  delta Builtin.List.listItems
  refine wpAny_bind ?_
  refine wpAny_bind ?_
  exact wpAny_load' hl (wpAny_pure (wpAny_pure h))
section
variable {prog : Program} {w : World} {A : Around} {E : Value → Shared → Prop} {R : Result → Shared → Prop}
theorem eq_loopO (b0 : Bool) (hE : ∀ e s, E e s → R (.error e) s) (l b : Addr) (z : Nat) (k : Nat) : ∀ (i : Nat) (s : Shared), z - i = k → i ≤ z →
    EqSteps (model prog w) A E l b z k i (fun c s' => R (.ok (.ret (.bool (c == b0)))) s') s →
    wpAny (model prog w) A.in1 (Builtin.«list.__eq__.loop» { pos := [.ref l, .ref b, rawInt ↑i, rawInt (if b0 = true then 2 else 3)] })
      (fun fin s' => match fin with
        | Fin.done f => R (Except.ok f) s'
        | Fin.again c' => c'.quiet = true ∧ codeAny (model prog w) A c' R s') (fun e s' => R (Except.error e) s') s := by
  induction k with
  | zero =>
    intro i s hk hi h
    obtain ⟨⟨items, items2, hl, hb, z1, z2⟩, h⟩ := h
    have e1 : items[i]? = none := by rw [Array.getElem?_eq_none_iff]; omega
    have e2 : items2[i]? = none := by rw [Array.getElem?_eq_none_iff]; omega
    cases b0
    all_goals
      delta Builtin.«list.__eq__.loop»
      refine wpAny_bind (wp_items hl ?_)
      refine wpAny_bind (wp_items hb ?_)
      dsimp only [Int.toNat_natCast]
      rw [e1, e2]
      refine wpAny_bind (wp_items hl ?_)
      refine wpAny_bind (wp_items hb ?_)
      refine wpAny_pure ?_
      rw [z1, z2]
      first
        | (show R (Except.ok (Flow.ret (Value.bool (z == z)))) s; simpa using h)
        | (show R (Except.ok (Flow.ret (Value.bool (z != z)))) s; simpa using h)
  | succ k ih =>
    intro i s hk hi h
    obtain ⟨items, items2, x, y, hl, hb, z1, z2, hx, hy, h⟩ := h
    cases b0
    all_goals
      delta Builtin.«list.__eq__.loop»
      refine wpAny_bind (wp_items hl ?_)
      refine wpAny_bind (wp_items hb ?_)
      dsimp only [Int.toNat_natCast]
      rw [hx, hy]
      refine wpAny_bind ?_
      refine wpAny_mono h ?_ ?_
      · intro c s' hc
        cases c
        · rw [if_neg (by decide)] at hc ⊢
          obtain ⟨⟨j1, j2, hl', hb', y1, y2⟩, hc⟩ := hc
          obtain ⟨x', hx'⟩ : ∃ x, j1[i]? = some x := ⟨_, Array.getElem?_eq_getElem (by omega)⟩
          obtain ⟨y', hy'⟩ : ∃ y, j2[i]? = some y := ⟨_, Array.getElem?_eq_getElem (by omega)⟩
          refine wpAny_bind (wp_items hl' ?_)
          refine wpAny_bind (wp_items hb' ?_)
          rw [hx', hy']
          exact wpAny_pure hc
        · rw [if_pos rfl] at hc ⊢
          refine wpAny_pure ⟨plainId_quiet MeetsSeq3.plain_eq_loop _, codeAny_builtin MeetsSeq3.entry_eq_loop ?_⟩
          exact ih (i + 1) s' (by omega) (by omega) hc
      · exact fun e s' he => hE e s' he
theorem call_of {T : String} {name : Str} {id : String} {B : Builtin} {self : Value} {rest : List Value} {s : Shared} {Q : Value → Shared → Prop} (slot : Slot T name id) (hT : s.TypeIs self T) (entry : entryFor table id = some B) (args : argsOk id { pos := self :: rest })
    (h : wpAny (model prog w) A.in1 (B { pos := self :: rest }) (fun fin s' => match fin with
        | Fin.done f => wants Q E (Except.ok f) s'
        | Fin.again c' => c'.quiet = true ∧ codeAny (model prog w) A c' (wants Q E) s') (fun e s' => wants Q E (Except.error e) s') s) : wpAny (model prog w) A (call (Value.builtin id) (self :: rest)) Q E s :=
  wpAny_call (codeAny_call_builtin slot.plain entry (slot.check (model prog w) A.in1 (fun e s' => wants Q E (Except.error e) s') s self rest [] (fun _ s₁ => wpAny (model prog w) A.in1 (B { pos := self :: rest }) (fun fin s' => match fin with
        | Fin.done f => wants Q E (Except.ok f) s'
        | Fin.again c' => c'.quiet = true ∧ codeAny (model prog w) A c' (wants Q E) s') (fun e s' => wants Q E (Except.error e) s') s₁) hT args h))
theorem list_cmpO (b0 : Bool) (l b : Addr) (z : Nat) {Q : Value → Shared → Prop} {s : Shared} (hu : A.units < cLine)
    (h : EqSteps (model prog w) A E l b z z 0 (fun c s' => Q (.bool (c == b0)) s') s) :
    wpAny (model prog w) A (compareOp (if b0 = true then .Eq else .NotEq) (.ref l) (.ref b)) Q E s := by
  obtain ⟨items, items2, il, ib, z1, z2⟩ := h.has
  have hsz : items.size = items2.size := by omega
  obtain ⟨dd, n, sl, hl⟩ := il.ex
  obtain ⟨dd2, n2, sl2, hb⟩ := ib.ex
  have f3 := AutoSeq1.sub_list_list
  have h' : EqSteps (model prog w) A E l b z z 0 (fun c s' => wants (fun v s' => v ≠ Value.notImplemented ∧ Q v s') E (.ok (.ret (.bool (c == b0)))) s') s :=
    h.mono fun c s q => (⟨(by intro z; cases z), q⟩ : Value.bool (c == b0) ≠ Value.notImplemented ∧ Q (Value.bool (c == b0)) s)
  have L := eq_loopO (R := wants (fun v s' => v ≠ Value.notImplemented ∧ Q v s') E) b0 (fun _ _ e => e) l b z z 0 s (by omega) (by omega) h'
  have ta : Shared.TypeIs s (.ref l) "list" := ⟨_, hl, rfl⟩
  have tb : Shared.TypeIs s (.ref b) "list" := ⟨_, hb, rfl⟩
  cases b0
  · rw [if_neg (by decide)]
    show wpAny (model prog w) A (richCompare .NotEq (.ref l) (.ref b)) Q E s
    refine wpAny_richCompare_same_room (id := "list.__ne__") (T := "list") ta tb F.slot_list_ne (call_of F.slot_list_ne ta F.entry_list_ne (F.args_list_ne_2 _ _) ?_) hu
    refine wpAny_bind ?_
    delta slotArgs
    refine wpAny_ite_false rfl (wpAny_ite_false rfl (wpAny_pure ?_))
    refine wpAny_bind ?_
    refine wpAny_bind ?_
    refine wpAny_bind ?_
    refine wpAny_loadPart' hb (wpAny_pure (wpAny_of_eq f3 ?_))
    refine wpAny_ite_false rfl (wpAny_ite_true rfl ?_)
    refine wpAny_bind (wp_items il ?_)
    refine wpAny_bind (wp_items ib ?_)
    rw [hsz]
    refine wpAny_ite_false (by simp) ?_
    exact wpAny_pure ⟨plainId_quiet MeetsSeq3.plain_eq_loop _, codeAny_builtin MeetsSeq3.entry_eq_loop L⟩
  · rw [if_pos rfl]
    show wpAny (model prog w) A (richCompare .Eq (.ref l) (.ref b)) Q E s
    refine wpAny_richCompare_same_room (id := "list.__eq__") (T := "list") ta tb F.slot_list_eq (call_of F.slot_list_eq ta F.entry_list_eq (F.args_list_eq_2 _ _) ?_) hu
    refine wpAny_bind ?_
    delta slotArgs
    refine wpAny_ite_false rfl (wpAny_ite_false rfl (wpAny_pure ?_))
    refine wpAny_bind ?_
    refine wpAny_bind ?_
    refine wpAny_bind ?_
    refine wpAny_loadPart' hb (wpAny_pure (wpAny_of_eq f3 ?_))
    refine wpAny_ite_false rfl (wpAny_ite_true rfl ?_)
    refine wpAny_bind (wp_items il ?_)
    refine wpAny_bind (wp_items ib ?_)
    rw [hsz]
    refine wpAny_ite_false (by simp) ?_
    exact wpAny_pure ⟨plainId_quiet MeetsSeq3.plain_eq_loop _, codeAny_builtin MeetsSeq3.entry_eq_loop L⟩
end
/-- items compared one by one -/
def StepsV (r : R2) (a b : Addr) (xs ys : List V) : List (V × V) → Hp → (Bool → Hp → Prop) → Prop
  | [], H, Q => (H a = some (.lst xs) ∧ H b = some (.lst ys)) ∧ Q true H
  | (x, y) :: t, H, Q => (H a = some (.lst xs) ∧ H b = some (.lst ys)) ∧ (∃ p, x = .ref p ∧ y ≠ .ref p) ∧ r x y H (fun v H' => ∃ c, v = .bl c ∧ if c = true then StepsV r a b xs ys t H' Q else (H' a = some (.lst xs) ∧ H' b = some (.lst ys)) ∧ Q false H')
def rEqLO (b0 : Bool) (r : R2) : R2 := fun x y H Q => ∃ a b xs ys, x = .ref a ∧ y = .ref b ∧ xs.length = ys.length ∧ StepsV r a b xs ys (xs.zip ys) H fun c H' => Q (.bl (c == b0)) H'
section
variable {X : Cx}
abbrev in1X (X : Cx) : Cx := { X with A := X.A.in1 }
theorem inv_in1 {pins : List (Addr × Obj)} {σ : L2.St} {H : Hp} {s : Shared} (I : Inv X pins σ H s) : Inv (in1X X) pins σ H s :=
  ⟨⟨I.ok.mod, I.ok.kind, I.ok.glob, I.ok.blt, I.ok.above, I.ok.inj, I.ok.has, I.ok.cab, I.ok.hd, I.ok.frames, I.ok.stk, I.ok.exf, I.ok.bs, I.ok.bsz, I.ok.noex, I.ok.exfs, I.ok.funs, I.ok.frf⟩,
    I.os, I.bare, I.base, I.loc, I.cell, I.free, I.freeC, I.pin, I.hok, I.len⟩
theorem inv_out1 {pins : List (Addr × Obj)} {σ : L2.St} {H : Hp} {s : Shared} (I : Inv (in1X X) pins σ H s) : Inv X pins σ H s :=
  ⟨⟨I.ok.mod, I.ok.kind, I.ok.glob, I.ok.blt, I.ok.above, I.ok.inj, I.ok.has, I.ok.cab, I.ok.hd, I.ok.frames, I.ok.stk, I.ok.exf, I.ok.bs, I.ok.bsz, I.ok.noex, I.ok.exfs, I.ok.funs, I.ok.frf⟩,
    I.os, I.bare, I.base, I.loc, I.cell, I.free, I.freeC, I.pin, I.hok, I.len⟩
theorem paired_len {α β : Type} {R : α → β → Prop} {xs : List α} {ys : List β} (h : Paired R xs ys) : xs.length = ys.length := by
  induction h with
  | nil => rfl
  | cons _ _ ih => simp [ih]
theorem paired_at {α β : Type} {R : α → β → Prop} {xs : List α} {ys : List β} (h : Paired R xs ys) : ∀ {i : Nat} {x : α}, xs[i]? = some x → ∃ y, ys[i]? = some y ∧ R x y := by
  induction h with
  | nil => intro i x e; simp at e
  | cons r _ ih =>
    intro i x e
    cases i with
    | zero => simp only [List.getElem?_cons_zero, Option.some.injEq] at e; subst e; exact ⟨_, by simp, r⟩
    | succ i => simp only [List.getElem?_cons_succ] at e; obtain ⟨y, e2, r2⟩ := ih e; exact ⟨y, by simpa using e2, r2⟩
theorem lst_at {P : Program} {w : World} {H : Hp} {s : Shared} {a : Addr} {xs : List V} (I : HOk P w H s.heap) (e : H a = some (.lst xs)) : ∃ its, Vals xs its ∧ IsL s a its.toArray := by
  have z := I a _ e
  unfold ObjOk at z
  obtain ⟨_, its, n, v, g⟩ := z
  exact ⟨its, v, ⟨_, n, _, g⟩⟩
theorem ref_beq {p : Addr} {y : V} {v : Value} (n : y ≠ .ref p) (r : RelV y v) : (Value.ref p == v) = false := by
  cases y with
  | non => cases (show v = .none from r); rfl
  | bl b => cases (show v = .bool b from r); rfl
  | int i => obtain ⟨t, rfl⟩ := (show ∃ t, v = .int i t from r); rfl
  | str i => obtain ⟨t, rfl⟩ := (show ∃ t, v = .str i t from r); rfl
  | byt i => obtain ⟨t, rfl⟩ := (show ∃ t, v = .bytes i t from r); rfl
  | flt i => obtain ⟨t, rfl⟩ := (show ∃ t, v = .float i t from r); rfl
  | ty i => cases (show v = .type i from r); rfl
  | ref q =>
    cases (show v = .ref q from r)
    have : p ≠ q := fun e => n (by rw [e])
    simpa using this
theorem eqBool_ref {M : Model} {A : Around} {E : Value → Shared → Prop} {Q : Bool → Shared → Prop} {s : Shared} {p : Addr} {y : Value} (n : (Value.ref p == y) = false) (h : wpAny M A (richCompare .Eq (.ref p) y) (fun v s' => ∃ c, v = .bool c ∧ Q c s') E s) : wpAny M A (eqBool (.ref p) y) Q E s := by
  delta eqBool
  refine wpAny_holding ?_
  refine wpAny_ite_false (by rw [n]; rfl) ?_
  show wpAny M A (do let r ← richCompare .Eq (.ref p) y; truthOfDropped r) Q E s
  refine wpAny_bind (wpAny_mono h ?_ fun _ _ e => e)
  rintro v s' ⟨c, rfl, q⟩
  exact wpAny_pure q
theorem steps_of {r : R2} (h : OpR (in1X X) (compareOp .Eq) r) {pins : List (Addr × Obj)} {σ : L2.St} {a b : Addr} {xs ys : List V} (hl : xs.length = ys.length) {Q : Bool → Hp → Prop} (k : Nat) : ∀ (i : Nat) (s : Shared) (H : Hp), xs.length - i = k → i ≤ xs.length → Inv X pins σ H s → StepsV r a b xs ys ((xs.zip ys).drop i) H Q →
    EqSteps (model X.prog X.w) X.A X.xe a b xs.length k i (fun c s' => ∃ H', Inv X pins σ H' s' ∧ Q c H') s := by
  have has : ∀ {s : Shared} {H : Hp}, Inv X pins σ H s → (H a = some (.lst xs) ∧ H b = some (.lst ys)) → HasL s a b xs.length := by
    intro s H I e
    obtain ⟨ia, va, ea⟩ := lst_at (s := s) I.hok e.1
    obtain ⟨ib, vb, eb⟩ := lst_at (s := s) I.hok e.2
    exact ⟨_, _, ea, eb, by rw [List.size_toArray, ← paired_len va], by rw [List.size_toArray, ← paired_len vb, hl]⟩
  induction k with
  | zero =>
    intro i s H hk hi I q
    have hz : (xs.zip ys).drop i = [] := by
      rw [List.drop_eq_nil_iff, List.length_zip]
      omega
    rw [hz] at q
    exact ⟨has I q.1, H, I, q.2⟩
  | succ k ih =>
    intro i s H hk hi I q
    obtain ⟨x, hx⟩ : ∃ x, xs[i]? = some x := ⟨_, List.getElem?_eq_getElem (by omega)⟩
    obtain ⟨y, hy⟩ : ∃ y, ys[i]? = some y := ⟨_, List.getElem?_eq_getElem (by omega)⟩
    have hz : (xs.zip ys).drop i = (x, y) :: (xs.zip ys).drop (i + 1) := by
      have hlen : i < (xs.zip ys).length := by rw [List.length_zip]; omega
      rw [List.drop_eq_getElem_cons hlen]
      congr 1
      rw [List.getElem_zip]
      rw [List.getElem?_eq_some_iff] at hx hy
      obtain ⟨_, h1⟩ := hx
      obtain ⟨_, h2⟩ := hy
      rw [h1, h2]
    rw [hz] at q
    obtain ⟨e, ⟨p, rfl, n⟩, q⟩ := q
    obtain ⟨ia, va, ea⟩ := lst_at (s := s) I.hok e.1
    obtain ⟨ib, vb, eb⟩ := lst_at (s := s) I.hok e.2
    obtain ⟨u, hu, ru⟩ := paired_at va hx
    obtain ⟨v, hv, rv⟩ := paired_at vb hy
    cases (show u = Value.ref p from ru)
    refine ⟨_, _, _, v, ea, eb, by rw [List.size_toArray, ← paired_len va], by rw [List.size_toArray, ← paired_len vb, hl], by simpa using hu, by simpa using hv, eqBool_ref (ref_beq n rv) ?_⟩
    refine wpAny_mono (h pins s σ H _ _ _ _ _ (inv_in1 I) ru rv q) ?_ fun _ _ e => e
    rintro t s' ⟨tv, H', I', rt, c, rfl, q'⟩
    cases (show t = Value.bool c from rt)
    refine ⟨c, rfl, ?_⟩
    cases c
    · rw [if_neg (by decide)] at q' ⊢
      exact ⟨has (inv_out1 I') q'.1, H', inv_out1 I', q'.2⟩
    · rw [if_pos rfl] at q' ⊢
      exact ih (i + 1) s' H' (by omega) (by omega) (inv_out1 I') q'
theorem op_eqLO (b0 : Bool) {r : R2} (h : OpR (in1X X) (compareOp .Eq) r) (hu : X.A.units < cLine) : OpR X (compareOp (if b0 = true then .Eq else .NotEq)) (rEqLO b0 r) := by
  intro pins s σ H x y v u Q I rx ry q
  obtain ⟨a, b, xs, ys, rfl, rfl, hl, q⟩ := q
  cases (show v = Value.ref a from rx)
  cases (show u = Value.ref b from ry)
  refine list_cmpO b0 a b xs.length hu ?_
  refine (steps_of h hl xs.length 0 s H (by omega) (by omega) I (by simpa using q)).mono ?_
  rintro c s' ⟨H', I', q'⟩
  exact ⟨.bl (c == b0), H', I', rfl, q'⟩
theorem op_eqL {r : R2} (h : OpR (in1X X) (compareOp .Eq) r) (hu : X.A.units < cLine) : OpR X (compareOp .Eq) (rEqLO true r) := op_eqLO true h hu
theorem op_neL {r : R2} (h : OpR (in1X X) (compareOp .Eq) r) (hu : X.A.units < cLine) : OpR X (compareOp .NotEq) (rEqLO false r) := op_eqLO false h hu
end
end G
namespace G
open PySem PySem.Spec PyProof.Rows L2
/-! ### a caught exception kept as a value: `except C as error: caught = error`, later isinstance(caught, D), caught.field -/
/-- a caught exception: its class, its dict -/
def ExV (cls : Value) (d : Option Addr) (a : Addr) : HO := .ext fun h => ∃ (oe : Obj) (vs : Array Value), h.get? a = some oe ∧ Zc cls d oe ∧ oe.data = .fields vs
theorem exV_ok {P : Program} {w : World} {H : Hp} {h : Heap} {a : Addr} {cls : Value} {d : Option Addr} {oe : Obj} {vs : Array Value} (e : h.get? a = some oe) (z : Zc cls d oe) (dt : oe.data = .fields vs) : ObjOk P w H h a (ExV cls d a) :=
  ⟨⟨oe, vs, e, z, dt⟩, ⟨oe, e⟩, fun _ _ ⟨o, v, q, r⟩ k => ⟨o, v, k o q, r⟩⟩
theorem HOk.track {P : Program} {w : World} {H : Hp} {h : Heap} {a : Addr} {o : HO} (x : HOk P w H h) (hn : H a = none) (new : ObjOk P w (upd H a o) h a o) : HOk P w (upd H a o) h := fun b u e => by
  by_cases hb : b = a
  · subst hb
    rw [upd_same] at e
    cases e
    exact new
  · rw [upd_ne hb] at e
    exact (x b u e).stay (fun c v _ q => q) (fun c q => by rw [upd_ne (ne_of_none q hn)]; exact q) fun c xs q => by rw [upd_ne (ne_of_none q hn)]; exact q
theorem mem_frs {env : Env} {l : List Env} {b L : Addr} (hf : env.frame = some L) (h : b ∈ frs (env :: l)) : b = L ∨ b ∈ frs l := by
  obtain ⟨e, he, q⟩ := List.mem_filterMap.mp h
  rcases List.mem_cons.mp he with rfl | he
  · left
    rw [hf] at q
    cases q
    rfl
  · exact .inr (List.mem_filterMap.mpr ⟨e, he, q⟩)
section
variable {X : Cx} {pins : List (Addr × Obj)} {σ : L2.St} {H : Hp} {s : Shared}
/-- an exception made since the entry may be tracked -/
theorem _root_.L2.Inv.track {a : Addr} {cls : Value} {d : Option Addr} {oe : Obj} {vs : Array Value} (I : Inv X pins σ H s) (e : s.heap.get? a = some oe) (z : Zc cls d oe) (dt : oe.data = .fields vs) (hn : H a = none) (n0 : X.s_0.heap.get? a = none)
    (nL : a ≠ X.env.locals) (np : ∀ p ∈ X.pn ++ pins, p.1 ≠ a) : Inv X pins σ (upd H a (ExV cls d a)) s := by
  have ne0 : ∀ b o, X.s_0.heap.get? b = some o → b ≠ a := fun b o q r => by
    rw [r, n0] at q
    cases q
  refine ⟨I.ok, I.os, I.bare, ⟨I.base.keep, I.base.slot, fun b o q n hx => ?_, I.base.there, fun b xs q => ?_, fun b o u q => ?_, fun b ps q => ?_⟩, I.loc, I.cell, ?_, fun x c q => ?_, fun p hp => ?_, HOk.track I.hok hn (exV_ok e z dt), I.len⟩
  · rw [upd_ne (ne0 b o q)]
    exact I.base.free b o q n hx
  · have r := I.base.tups b xs q
    rw [upd_ne (ne_of_none r hn)]
    exact r
  · have r := I.base.frzs b o u q
    rw [upd_ne (ne_of_none r hn)]
    exact r
  · obtain ⟨m, r⟩ := I.base.tbls b ps q
    exact ⟨m, by rw [upd_ne (ne_of_none r hn)]; exact r⟩
  · rw [upd_ne fun r => nL r.symm]
    exact I.free
  · have nc : c ≠ a := fun r => by
      obtain ⟨v, o, ho, hd⟩ := I.cell x c q
      rw [r, e] at ho
      cases ho
      rw [dt] at hd
      cases hd
    rw [upd_ne nc]
    exact I.freeC x c q
  · obtain ⟨h1, h2, h3⟩ := I.pin p hp
    exact ⟨h1, by rw [upd_ne (np p hp)]; exact h2, h3⟩
end
/-- a suite whose exception is kept -/
def tsK (ts : Addr → Value → Option Addr → TS) : Addr → Value → Option Addr → TS := fun a cls d D => ts a cls d { nx := fun σ' H' => H' a = none → D.nx σ' (upd H' a (ExV cls d a)), rt := D.rt, bk := D.bk, ct := D.ct }
inductive ClsOkV (X : Cx) : List ExceptHandler → List Cl → Prop
  | nil : ClsOkV X [] []
  /-- the clauses from here on are not asked -/
  | stop {hds : List ExceptHandler} : ClsOkV X hds [(.none, none, fun _ _ _ _ _ _ => False)]
  | one {x : Str} {c : Value} {ts : Addr → Value → Option Addr → TS} {b₀ : Stmt} {suite : List Stmt} {np pos' : Pos} {hds : List ExceptHandler} {l : List Cl} (hc : Names X x c)
      (hsu : ∀ (a : Addr) (oe : Obj) (cls : Value) (d : Option Addr) (pn : List (Addr × Obj)), Zc cls d oe → (∃ vs, oe.data = .fields vs) → PSs (X.suite a ((a, oe) :: pn)) (b₀ :: suite) (ts a cls d)) (r : ClsOkV X hds l) :
      ClsOkV X (.ExceptHandler (some (.Name x np)) none (b₀ :: suite) pos' :: hds) ((c, none, ts) :: l)
  | as {x n : Str} {c : Value} {i : Nat} {ts : Addr → Value → Option Addr → TS} {b₀ : Stmt} {suite : List Stmt} {np pos' : Pos} {hds : List ExceptHandler} {l : List Cl} (hc : Names X x c) (hi : X.N[i]? = some n) (hln : X.env.kindOf n = some .local)
      (hsu : ∀ (a : Addr) (oe : Obj) (cls : Value) (d : Option Addr) (pn : List (Addr × Obj)), Zc cls d oe → (∃ vs, oe.data = .fields vs) → PSs (X.suite a ((a, oe) :: pn)) (b₀ :: suite) (ts a cls d)) (r : ClsOkV X hds l) :
      ClsOkV X (.ExceptHandler (some (.Name x np)) (some n) (b₀ :: suite) pos' :: hds) ((c, some i, ts) :: l)
  /-- kept -/
  | keep {x n : Str} {c : Value} {i : Nat} {ts : Addr → Value → Option Addr → TS} {b₀ : Stmt} {suite : List Stmt} {np pos' : Pos} {hds : List ExceptHandler} {l : List Cl} (hc : Names X x c) (hi : X.N[i]? = some n) (hln : X.env.kindOf n = some .local)
      (hsu : ∀ (a : Addr) (oe : Obj) (cls : Value) (d : Option Addr) (pn : List (Addr × Obj)), Zc cls d oe → (∃ vs, oe.data = .fields vs) → PSs (X.suite a ((a, oe) :: pn)) (b₀ :: suite) (ts a cls d)) (r : ClsOkV X hds l) :
      ClsOkV X (.ExceptHandler (some (.Name x np)) (some n) (b₀ :: suite) pos' :: hds) ((c, some i, tsK ts) :: l)
section
variable {X : Cx} {body : List Stmt} {h₀ : ExceptHandler} {hds : List ExceptHandler} {l : List Cl} {pos : Pos} {tb : WX → TS} {Wout : WX}
theorem ps_try_v (hx0 : X.ex = []) (hs : X.stack = X.env :: X.outer) (hf : X.env.frame = some X.env.locals) (hN : X.N.Nodup) (tk : Takes X Wout)
    (hb : ∀ (W : WX) (pn : List (Addr × Obj)) (xe : Value → Shared → Prop), Takes (X.tr pn xe) W → PassesOwn (model X.prog X.w) X.A X.env xe → PSs (X.tr pn xe) body (tb W))
    (hh : ClsOkV X (h₀ :: hds) l) : PS X (.Try body (h₀ :: hds) [] [] pos) (fun D σ H => tb (wCls X.K X.N.length Wout D l) D σ H) := by
  refine ⟨fun pins s σ H D I h => ?_⟩
  have ok := I.ok
  have hfr : X.A.frames = some (X.env :: X.outer) := by rw [ok.frames, hs]
  refine wpAny_Try_except (wpAny_mono ((hb (wCls X.K X.N.length Wout D l) (X.pn ++ pins) (fun e s₁ => wpAny (model X.prog X.w) X.A (noteFrame e X.env) (fun _ s₂ => wpAny (model X.prog X.w) X.A (setFlight e none) (fun _ s₃ =>
    wpAny (model X.prog X.w) X.A (handleBy e X.env (h₀ :: hds)) (SP X pins D) X.xe s₃) X.xe s₂) X.xe s₁) (fun u s' xx => ?_) PassesOwn.looking).run [] s σ H D (I.toTry _) h) (fun f s1 hsp => ?_) (fun e s1 he => he))
  · obtain ⟨a, B, sI, pins', σ', H', cls, d, rfl, J', nb, up, sky, na, os, ag, w⟩ := xx
    have J : Inv X pins σ' H' sI := J'.ofTry ok
    rw [show (X.tr (X.pn ++ pins) _).stack = X.stack from rfl, hs] at sky
    show wpAny (model X.prog X.w) X.A (noteFrame (.ref a) X.env) _ _ _
    refine Sky.land Zc.steady hfr hf sky fun h3 fl3 up3 => ?_
    have J3 : Inv X pins σ' H' { s' with heap := h3 } := J.landed nb fl3.1 (up.trans up3) os ag
    obtain ⟨oe3, vs3, he3, hz3, hd3⟩ := fl3.there
    have nfr : a ∉ frs (X.env :: X.outer) := fun hm => by
      obtain ⟨_, o', e', hnf⟩ := fl3.2.2.1.mem hm
      rw [he3] at e'
      cases e'
      exact hnf _ hd3
    have nL : a ≠ X.env.locals := fun z => nfr (List.mem_filterMap.mpr ⟨X.env, List.mem_cons_self, by rw [hf, z]⟩)
    have nF : a ∉ X.fs := fun hm => by
      obtain ⟨e, he, q⟩ := List.mem_filterMap.mp hm
      exact nfr (List.mem_filterMap.mpr ⟨e, List.mem_cons_of_mem _ he, q⟩)
    have S3 := J3.suite he3 hd3 na nL nF
    have gN : ∀ b o, sI.heap.get? b = some o → b ∉ frs X.stack → b ≠ a := fun b o e hb z => by
      have q := nb b o e hb
      rw [z] at q
      obtain ⟨_, zn, _⟩ := id fl3
      rw [zn] at q
      cases q
    have n0 : X.s_0.heap.get? a = none := by
      cases e : X.s_0.heap.get? a with
      | none => rfl
      | some o =>
        obtain ⟨o', e'⟩ := J.base.there a o e (by rw [hx0]; exact fun z => nomatch z)
        exact absurd rfl (gN a o' e' (by rw [hs]; exact nfr))
    have npa : ∀ p ∈ X.pn ++ pins, p.1 ≠ a := fun p hp => by
      obtain ⟨e, _, nl, nf, _⟩ := J.pin p hp
      refine gN p.1 p.2 e fun hm => ?_
      rw [hs] at hm
      rcases mem_frs hf hm with z | z
      · exact nl z
      · exact nf z
    have LT : PySem.W.Looks (model X.prog X.w) h3 (typeOf (.ref a)) cls := fun A Q E s k q => wpAny_typeOf_ref (k _ _ he3) (by rw [hz3.1]; exact q)
    -- the class that a clause names
    have test : ∀ {x : Str} {np : Pos} {c : Value} {Q : Value → Shared → Prop} {E : Value → Shared → Prop}, Names X x c → Q c { s' with heap := h3 } → wpAny (model X.prog X.w) (X.A.mark (some (.ref a))) (eval (.Name x np) X.env) Q E { s' with heap := h3 } := fun {x np c Q E} hc q => by
      obtain ⟨hg, hdbg, hm | ⟨hm, hv, hnn⟩⟩ := hc
      · exact ld_glob (X := X.suite a ((a, oe3) :: (X.pn ++ pins))) S3 hg hm q hdbg
      · exact ld_blt (X := X.suite a ((a, oe3) :: (X.pn ++ pins))) S3 hg hm hv q hnn hdbg
    -- the end of a suite
    have ends : ∀ {q : Addr × Obj} {f : Flow} {s6 : Shared}, SP (X.suite a (q :: (X.pn ++ pins))) [] D f s6 → SP X pins D f s6 := fun {q f s6} z => by
      match f, z with
      | .next, ⟨σ6, H6, S6, q6⟩ => exact ⟨_, _, S6.unsuite ok, q6⟩
      | .brk, ⟨σ6, H6, S6, q6⟩ => exact ⟨_, _, S6.unsuite ok, q6⟩
      | .cont, ⟨σ6, H6, S6, q6⟩ => exact ⟨_, _, S6.unsuite ok, q6⟩
      | .ret u, ⟨v6, σ6, H6, S6, r6, q6⟩ => exact ⟨_, _, _, S6.unsuite ok, r6, q6⟩
    have go : ∀ {hds' : List ExceptHandler} {l' : List Cl}, ClsOkV X hds' l' → wCls X.K X.N.length Wout D l' cls d σ' H' → wpAny (model X.prog X.w) X.A (handleBy (.ref a) X.env hds') (SP X pins D) X.xe { s' with heap := h3 } := by
      intro hds' l' hk
      induction hk with
      | nil =>
        intro w
        refine wpAny_handleBy_nil ?_
        obtain ⟨k1, k2, k3, oe, vs, T, oT, ts', he, hz, hd, h1, hr⟩ := id fl3
        unfold PySem.passOn
        refine wpAny_bind (wpAny_field he hd h1 ?_)
        rw [if_neg (show ¬ ((Value.ref T == Value.none) = true) from by simp)]
        have fin : wpAny (model X.prog X.w) X.A (setFlight (.ref a) X.env.frame) (fun _ s4 => wpAny (model X.prog X.w) X.A (throw (.ref a) : Sem Flow) (SP X pins D) X.xe s4) X.xe { s' with heap := h3 } := by
          rw [hf]
          exact HandSPX.setFlight_upZ fl3 fun h4 hh4 up4 => wpAny_throw (tk _ _ ⟨a, B, sI, pins, σ', H', cls, d, rfl, J, nb, (up.trans up3).trans up4, .inr (.inr (by rw [hs]; exact hh4)), na, os, ag, w⟩)
        first
          | exact wpAny_bind (wpAny_pure (wpAny_bind fin))
          | exact wpAny_bind fin
      | stop =>
        rintro ⟨b, hb1, _⟩
        rw [exm_none] at hb1
        cases hb1
      | one hc hsu r ih =>
        rintro ⟨b, hb1, hyes, hno⟩
        refine wpAny_handleBy_cons (codeAny_handlers_test ?_) (by intro q; cases q)
        refine test hc ((PySem.W.exm_one (M := model X.prog X.w) J3.kIn LT hb1).here ?_)
        cases b with
        | false => exact ih (hno rfl)
        | true =>
          refine codeAny_handlers_suite (HandSPX.lands_againZ fl3 fun h4 fl4 up4 => ?_)
          have J4 : Inv X pins σ' H' { s' with heap := h4 } := J.landed nb fl4.1 ((up.trans up3).trans up4) os ag
          obtain ⟨oe4, vs4, he4, hz4, hd4⟩ := fl4.there
          exact wpAny_mono ((hsu a oe4 cls d (X.pn ++ pins) hz4 ⟨_, hd4⟩).run [] _ _ H' _ (J4.suite he4 hd4 na nL nF) (hyes rfl a na J4.len)) (fun f s6 z => ends z) (fun _ _ z => False.elim z)
      | @as x n c i ts b₀ suite np pos' hds2 l2 hc hi hln hsu r ih =>
        rintro ⟨b, hb1, hyes, hno⟩
        refine wpAny_handleBy_cons (codeAny_handlers_test ?_) (by intro q; cases q)
        refine test hc ((PySem.W.exm_one (M := model X.prog X.w) J3.kIn LT hb1).here ?_)
        cases b with
        | false => exact ih (hno rfl)
        | true =>
          refine codeAny_handlers_suite_as (HandSPX.lands_againZ fl3 fun h4 fl4 up4 => ?_)
          have J4 : Inv X pins σ' H' { s' with heap := h4 } := J.landed nb fl4.1 ((up.trans up3).trans up4) os ag
          obtain ⟨oe4, vs4, he4, hz4, hd4⟩ := fl4.there
          refine store_ok (X := X.suite a ((a, oe4) :: (X.pn ++ pins))) (v := .ref a) (J4.suite he4 hd4 na nL nF) hN hi (.inl hln) rfl (fun s5 S5 => ?_) (.inr hln)
          refine wpAny_mono ((hsu a oe4 cls d (X.pn ++ pins) hz4 ⟨_, hd4⟩).run [] s5 _ H' _ S5 (hyes rfl a na J4.len)) (fun f s6 hsp => ?_) (fun _ _ z => False.elim z)
          have end_ : ∀ {σ6 : L2.St} {H6 : Hp} {Q : Shared → Prop}, Inv (X.suite a ((a, oe4) :: (X.pn ++ pins))) [] σ6 H6 s6 → (∀ s7, Inv X pins (σ6.set i none) H6 s7 → Q s7) →
              wpAny (model X.prog X.w) X.A (do bindName X.env n .none; unbindBehindTheSuite X.env n pos') (fun _ s7 => Q s7) X.xe s6 := fun {σ6 H6 Q} S6 hq => gone_ok (S6.unsuite ok) hN hi hln hq
          match f, hsp with
          | .next, ⟨σ6, H6, S6, q6⟩ => exact end_ S6 fun s7 J7 => ⟨_, _, J7, q6⟩
          | .brk, ⟨σ6, H6, S6, q6⟩ => exact end_ S6 fun s7 J7 => ⟨_, _, J7, q6⟩
          | .cont, ⟨σ6, H6, S6, q6⟩ => exact end_ S6 fun s7 J7 => ⟨_, _, J7, q6⟩
          | .ret u, ⟨v6, σ6, H6, S6, r6, q6⟩ => exact end_ S6 fun s7 J7 => ⟨_, _, _, J7, r6, q6⟩
      | @keep x n c i ts b₀ suite np pos' hds2 l2 hc hi hln hsu r ih =>
        rintro ⟨b, hb1, hyes, hno⟩
        refine wpAny_handleBy_cons (codeAny_handlers_test ?_) (by intro q; cases q)
        refine test hc ((PySem.W.exm_one (M := model X.prog X.w) J3.kIn LT hb1).here ?_)
        cases b with
        | false => exact ih (hno rfl)
        | true =>
          refine codeAny_handlers_suite_as (HandSPX.lands_againZ fl3 fun h4 fl4 up4 => ?_)
          have J4 : Inv X pins σ' H' { s' with heap := h4 } := J.landed nb fl4.1 ((up.trans up3).trans up4) os ag
          obtain ⟨oe4, vs4, he4, hz4, hd4⟩ := fl4.there
          refine store_ok (X := X.suite a ((a, oe4) :: (X.pn ++ pins))) (v := .ref a) (J4.suite he4 hd4 na nL nF) hN hi (.inl hln) rfl (fun s5 S5 => ?_) (.inr hln)
          refine wpAny_mono ((hsu a oe4 cls d (X.pn ++ pins) hz4 ⟨_, hd4⟩).run [] s5 _ H' _ S5 (hyes rfl a na J4.len)) (fun f s6 hsp => ?_) (fun _ _ z => False.elim z)
          have endK : ∀ {σ6 : L2.St} {H6 : Hp} {Q : Shared → Prop}, Inv (X.suite a ((a, oe4) :: (X.pn ++ pins))) [] σ6 H6 s6 → (H6 a = none → ∀ s7, Inv X pins (σ6.set i none) (upd H6 a (ExV cls d a)) s7 → Q s7) →
              wpAny (model X.prog X.w) X.A (do bindName X.env n .none; unbindBehindTheSuite X.env n pos') (fun _ s7 => Q s7) X.xe s6 := fun {σ6 H6 Q} S6 hq => by
            obtain ⟨e6, n6, _⟩ := S6.pin (a, oe4) (List.mem_append.mpr (.inl List.mem_cons_self))
            exact gone_ok ((S6.unsuite ok).track e6 hz4 hd4 n6 n0 nL npa) hN hi hln (hq n6)
          have end_ : ∀ {σ6 : L2.St} {H6 : Hp} {Q : Shared → Prop}, Inv (X.suite a ((a, oe4) :: (X.pn ++ pins))) [] σ6 H6 s6 → (∀ s7, Inv X pins (σ6.set i none) H6 s7 → Q s7) →
              wpAny (model X.prog X.w) X.A (do bindName X.env n .none; unbindBehindTheSuite X.env n pos') (fun _ s7 => Q s7) X.xe s6 := fun {σ6 H6 Q} S6 hq => gone_ok (S6.unsuite ok) hN hi hln hq
          match f, hsp with
          | .next, ⟨σ6, H6, S6, q6⟩ => exact endK S6 fun n6 s7 J7 => ⟨_, _, J7, q6 n6⟩
          | .brk, ⟨σ6, H6, S6, q6⟩ => exact end_ S6 fun s7 J7 => ⟨_, _, J7, q6⟩
          | .cont, ⟨σ6, H6, S6, q6⟩ => exact end_ S6 fun s7 J7 => ⟨_, _, J7, q6⟩
          | .ret u, ⟨v6, σ6, H6, S6, r6, q6⟩ => exact end_ S6 fun s7 J7 => ⟨_, _, _, J7, r6, q6⟩
    exact go hh w
  · match f, hsp with
    | .next, ⟨σ', H', J', q⟩ => exact wpAny_execs_nil ⟨σ', H', J'.ofTry ok, q⟩
    | .brk, ⟨σ', H', J', q⟩ => exact ⟨σ', H', J'.ofTry ok, q⟩
    | .cont, ⟨σ', H', J', q⟩ => exact ⟨σ', H', J'.ofTry ok, q⟩
    | .ret u, ⟨v, σ', H', J', r, q⟩ => exact ⟨v, σ', H', J'.ofTry ok, r, q⟩
end
/-! reading what was kept -/
/-- what an own exception class must have -/
structure ExvC (K : PySem.W.Frag) (C : Addr) : Prop where
  cl : (PySem.W.clsIn K C).isSome = true
  ga : PySem.W.findIn K (.ref C) "__getattribute__" = some (some (.builtin "BaseException.__getattribute__"))
  gg : PySem.W.findIn K (.ref C) "__getattr__" = some none
  sb : PySem.W.subIn K (.ref C) (.type "BaseException") = some true
  hd : PySem.W.hasDictIn K C = true
  ca : PySem.W.findIn K (.ref C) "__class__" = some (some (.builtin "object.__class__"))
  sn : PySem.W.specialIn K (.builtin "object.__class__") "__get__" = some (some (.builtin "getset_descriptor.__get__"))
  tk : PySem.W.takesIn K (.builtin "object.__class__") = some true
  ob : PySem.W.mroIn K C (.type "object") = some true
def exvB (x : Str) : ExB := fun K => (PySem.W.clsIn K (He.ga K x)).isSome && (decide (PySem.W.findIn K (.ref (He.ga K x)) "__getattribute__" = some (some (.builtin "BaseException.__getattribute__"))) && (decide (PySem.W.findIn K (.ref (He.ga K x)) "__getattr__" = some none) &&
  (decide (PySem.W.subIn K (.ref (He.ga K x)) (.type "BaseException") = some true) && (PySem.W.hasDictIn K (He.ga K x) && (decide (PySem.W.findIn K (.ref (He.ga K x)) "__class__" = some (some (.builtin "object.__class__"))) &&
  (decide (PySem.W.specialIn K (.builtin "object.__class__") "__get__" = some (some (.builtin "getset_descriptor.__get__"))) && (decide (PySem.W.takesIn K (.builtin "object.__class__") = some true) && decide (PySem.W.mroIn K (He.ga K x) (.type "object") = some true))))))))
theorem exvB_ok {K : PySem.W.Frag} {x : Str} (h : exvB x K = true) : ExvC K (He.ga K x) := by
  unfold exvB at h
  simp only [Bool.and_eq_true, decide_eq_true_eq] at h
  obtain ⟨h1, h2, h3, h4, h5, h6, h7, h8, h9⟩ := h
  exact ⟨h1, h2, h3, h4, h5, h6, h7, h8, h9⟩
/-- the class C has nothing of the name f: the instance's own is read -/
def noFB (x f : Str) : ExB := fun K => decide (PySem.W.findIn K (.ref (He.ga K x)) f = some none)
theorem noFB_ok {K : PySem.W.Frag} {x f : Str} (h : noFB x f K = true) : PySem.W.findIn K (.ref (He.ga K x)) f = some none := of_decide_eq_true h
/-- caught: an exception of the class C with the fields fs -/
def Caught (K : PySem.W.Frag) (H : Hp) (C : Addr) (fs : List (Str × V)) (v : V) : Prop := ∃ a dd, v = .ref a ∧ H a = some (ExV (.ref C) (some dd) a) ∧ H dd = some (.xd fs) ∧ ExvC K C
/-- isinstance(caught, c) -/
def rIsV (K : PySem.W.Frag) : List V → Hp → VK → Prop := fun xs H Q => ∃ x c C fs cv b, xs = [x, c] ∧ Caught K H C fs x ∧ ClsV c cv ∧ PySem.W.kitOne K (.ref C) cv = some b ∧ Q (.bl b) H
/-- caught.f -/
def tXfV (K : PySem.W.Frag) (f : Str) (te : TE) : TE := fun σ H Q => te σ H fun x H1 => ∃ C fs v, Caught K H1 C fs x ∧ PySem.W.findIn K (.ref C) f = some none ∧ fs.lookup f = some v ∧ Q v H1
section
variable {X : Cx}
theorem caught_at {pins : List (Addr × Obj)} {σ : L2.St} {H : Hp} {s : Shared} (I : Inv X pins σ H s) {C : Addr} {fs : List (Str × V)} {x : V} {u : Value} (h : Caught X.K H C fs x) (r : RelV x u) :
    ∃ (a dd : Addr) (oe od : Obj) (mA : Str → Option Value), u = .ref a ∧ PySem.W.InstAt s.heap a oe C (some od) ∧ H dd = some (.xd fs) ∧ (∀ n, PySem.W.lookIn n od = some (mA n)) ∧ ∀ f, RelO (fs.lookup f) (mA f) := by
  obtain ⟨a, dd, rfl, ha, hd, C⟩ := h
  cases (show u = Value.ref a from r)
  obtain ⟨⟨oe, vs, e, z, dt⟩, _⟩ := (show ObjOk X.prog X.w H s.heap a _ from I.hok a _ ha)
  obtain ⟨mA, hns, hr⟩ := (show ObjOk X.prog X.w H s.heap dd (.xd fs) from I.hok dd _ hd)
  obtain ⟨od, ho, hl⟩ := lookIn_ns hns
  exact ⟨a, dd, oe, od, mA, rfl, ⟨e, z.1, by unfold PySem.W.notCls; rw [dt] <;> rfl, by rw [z.2]; exact ho⟩, hd, hl, hr⟩
theorem call_isV : CallR X (.builtin "isinstance") (rIsV X.K) := by
  intro pins s σ H xs us Q I r h
  obtain ⟨x, c, C, fs, cv, b, rfl, hc, k, e, q⟩ := h
  obtain ⟨u1, u2, rfl, r1, r2⟩ := vals2 r
  have e2 := k.eq r2
  subst e2
  have F : ExvC X.K C := by
    obtain ⟨_, _, _, _, _, F⟩ := hc
    exact F
  obtain ⟨a, dd, oe, od, mA, rfl, J, _⟩ := caught_at I hc r1
  exact PySem.W.kia_one (PySem.W.kitx_exc F.cl F.ga F.gg F.sb F.ca F.sn F.tk F.ob) I.kIn J e (fun z => nomatch z) fun tk => ⟨.bl b, H, I.tok tk, rfl, q⟩
theorem pe_xfV {e : Expr} {te : TE} {pos : Pos} {n : Str} (he : PE X e te) (hb : attributeBase e n X.env (eval e X.env) = eval e X.env := by rfl) : PE X (.Attribute e n pos) (tXfV X.K n te) := by
  refine ⟨fun pins s σ H Q I h => ?_⟩
  refine attr_of hb (thn (he.run pins s σ H _ I h) fun u s1 hh => ?_)
  obtain ⟨x, H1, I1, rx, C, fs, v, hc, hno, l, q⟩ := hh
  have F : ExvC X.K C := by
    obtain ⟨_, _, _, _, _, F⟩ := hc
    exact F
  obtain ⟨a, dd, oe, od, mA, rfl, J, ed, hl, hr⟩ := caught_at I1 hc rx
  obtain ⟨u, hu, ru⟩ := RelO.some_of (v := v) (o := mA n) (by rw [← l]; exact hr n)
  exact HandSPX.exc_get I1.kIn J F.ga F.gg F.sb (PySem.W.findObj_own F.hd hno rfl (by rw [hl, hu])) (handed_of ru) ⟨v, H1, I1.tok _, ru, q⟩
theorem pe_xfVK {K : PySem.W.Frag} (e0 : X.K = K) {e : Expr} {te : TE} {pos : Pos} {n : Str} (he : PE X e te) (hb : attributeBase e n X.env (eval e X.env) = eval e X.env := by rfl) : PE X (.Attribute e n pos) (tXfV K n te) := by
  subst e0
  exact pe_xfV he hb
theorem call_isVK {K : PySem.W.Frag} (e : X.K = K) : CallR X (.builtin "isinstance") (rIsV K) := by
  subst e
  exact call_isV
end
/-! stepping -/
section
variable {K : PySem.W.Frag} {H H' : Hp} {σ : L2.St} {Q : VK} {C a dd : Addr} {fs : List (Str × V)} {x v : V} {te : TE}
theorem Caught.kp (k : Kp H H') (h : Caught K H C fs x) : Caught K H' C fs x := let ⟨a, dd, e, h1, h2, F⟩ := h; ⟨a, dd, e, k _ _ h1, k _ _ h2, F⟩
theorem Caught.new (F : ExvC K C) (ha : H a = none) (hd : H dd = some (.xd fs)) : Caught K (upd H a (ExV (.ref C) (some dd) a)) C fs (.ref a) :=
  ⟨a, dd, rfl, upd_same, by rw [upd_ne (ne_of_none hd ha)]; exact hd, F⟩
theorem isV {c : V} {cv : Value} {b : Bool} (h : Caught K H C fs x) (k : ClsV c cv) (e : PySem.W.kitOne K (.ref C) cv = some b) (q : Q (.bl b) H) : rIsV K [x, c] H Q := ⟨x, c, C, fs, cv, b, rfl, h, k, e, q⟩
theorem isV_cl {D : Addr} {b : Bool} (h : Caught K H C fs x) (e : PySem.W.kitOne K (.ref C) (.ref D) = some b) (q : Q (.bl b) H) : rIsV K [x, .ref D] H Q := isV h (.own D) e q
end
/-! max of two ints -/
def rMax2 : List V → Hp → VK → Prop := fun xs H Q => ∃ i j : Int, xs = [.int i, .int j] ∧ Q (.int (if j > i then j else i)) H
theorem call_max2G {X : Cx} (hc : X.calm = true) : CallR X (.builtin "max") rMax2 := call_max2 hc
theorem max_ii {H : Hp} {Q : VK} {i j k : Int} (e : max i j = k) (q : Q (.int k) H) : rMax2 [.int i, .int j] H Q := ⟨i, j, rfl, by
  rw [show (if j > i then j else i) = k by
    rw [← e]
    split <;> omega]
  exact q⟩
end G
namespace G
open PySem PySem.Spec PySem.Calls PyProof.Rows L2 StX
/-! ### defs with a star parameter: f(a, .., *v) -/
/-- a def's promise by its positional arguments -/
def FnGR (P : Program) (w : World) (K : PySem.W.Frag) (mg : Str → Option Value) (base : Heap) (CX : CXT) (k : Nat) (f : Addr) (sp : Sp) : Prop :=
  ∀ (A : Around) (outer : List Env) (s : Shared) (H : Hp) (us : List Value) (vs : List V) (Q : VK) (E : XK), RoomG k A → Env0 P w K mg base A outer s H → Vals vs us → sp vs H Q E →
    codeAny (model P w) A (.call (.ref f) ⟨us, []⟩) (CR CX outer P w H s Q E) s
/-- what a caller with a star parameter says: n arguments ahead, the others in a new tuple -/
def starSp (n : Nat) (sp : Sp) : Sp := fun vs H Q E => ∃ ws rest, vs = ws ++ rest ∧ ws.length = n ∧ rest.length ≤ sizeLine ∧ ∀ p, H p = Option.none → sp (ws ++ [V.ref p]) (upd H p (.tup rest)) Q E
section
variable {CX : CXT} {P : Program} {w : World} {K : PySem.W.Frag} {mg : Str → Option Value} {base : Heap} {j k : Nat} {f : Addr} {fd : FuncData} {x qual : Str} {st : Stmt} {dvs : List V} {kws : List (Str × V)} {N ps : List Str} {sp : Sp}
theorem FnGR.mono (F : FnGR P w K mg base CX j f sp) (h : j ≤ k) : FnGR P w K mg base CX k f sp := fun A outer s H us vs Q E hr => F A outer s H us vs Q E (hr.mono h)
theorem fn_starG {pv : Str} (F : L2.FunD K x qual (defArgs st) (defBody st) (defScope st) dvs kws f fd) (S : FnScope N (ps ++ [pv]) (defScope st)) (hCX : CXUp CX)
    (hb : ∀ us rest : List Value, us.length = ps.length → bindArgs fd ⟨us ++ rest, []⟩ = (newTuple rest >>= fun t => pure (ps.zip us ++ [(pv, t)])))
    (hbody : ∀ (cdv : Value) (A : Around) (outer : List Env) (s : Shared) (H : Hp) (vs : List V) (Q : VK) (E : XK), RoomG k (A.deeper (envOfC qual (defScope st) s.heap.objs.size f cdv)) → sp vs H Q E →
      ∃ t, PSs (cxOf CX P w K mg base N qual (defScope st) f cdv A outer s H E) (defBody st) t ∧ t { nx := fun _ H' => Q .non H', rt := Q } (start N vs) H) :
    FnGR P w K mg base CX (k + 1) f (starSp ps.length sp) := by
  obtain ⟨oc, od, dV, kV, doc, pm, an, cdv, ct, osl, rfl, lk, hcd, _, _⟩ := F.ex
  intro A outer s H us vs Q E hr e0 r hsp
  obtain ⟨ws, rest, ev, hl, hz, hq⟩ := hsp
  subst ev
  obtain ⟨u1, u2, eu, r1, r2⟩ := vals_split r
  subst eu
  have hn : H s.heap.objs.size = Option.none := e0.hok.fresh (Nat.le_refl _)
  have hl1 : u1.length = ps.length := by rw [← r1.length]; exact hl
  have hl2 : u2.length ≤ sizeLine := by rw [← r2.length]; exact hz
  refine run_bnd lk hcd S hr.rm e0 (G := fun xs H2 => ∃ p, H p = Option.none ∧ xs = ws ++ [V.ref p] ∧ H2 = upd H p (.tup rest)) (fun A' Ex Q' h => ?_) fun s2 H2 xs ⟨p, hp, ex, eH⟩ hr' => ?_
  · rw [hb u1 u2 hl1]
    refine wpAny_bind (wpAny_newTuple (wpAny_pure ?_) hl2)
    have new : ObjOk P w (upd H s.heap.objs.size (.tup rest)) (s.heap.push ({ cls := .type "tuple", data := .seq u2.toArray } : Obj)) s.heap.objs.size (.tup rest) := ⟨hz, u2, r2, ⟨_, Heap.get?_push_size _ rfl, rfl, _, rfl⟩⟩
    have un := un_laid (fs := frs outer) (s := s) (o := ({ cls := .type "tuple", data := .seq u2.toArray } : Obj)) (u := .tup rest) hn
    have z := h _ _ (ws ++ [V.ref s.heap.objs.size]) (u1 ++ [Value.ref s.heap.objs.size]) (env0_laid e0 new) un rfl (fun e s' => hCX outer s H _ _ E e s' un (fun b o q => Heap.get?_push_of_some _ q) rfl) (r1.append (.cons rfl .nil))
      (by rw [List.length_append, List.length_append, hl] <;> rfl) ⟨_, hn, rfl, rfl⟩
    rw [List.zip_append hl1.symm] at z
    exact z
  · subst ex eH
    exact hbody cdv A outer s2 _ _ Q E (hr.deeper _) (hq p hp)
theorem fn_starG0 {pv : Str} (F : L2.FunD K x qual (defArgs st) (defBody st) (defScope st) dvs kws f fd) (S : FnScope N (ps ++ [pv]) (defScope st))
    (hb : ∀ us rest : List Value, us.length = ps.length → bindArgs fd ⟨us ++ rest, []⟩ = (newTuple rest >>= fun t => pure (ps.zip us ++ [(pv, t)])))
    (hbody : ∀ (cdv : Value) (A : Around) (outer : List Env) (s : Shared) (H : Hp) (vs : List V) (Q : VK) (E : XK), RoomG k (A.deeper (envOfC qual (defScope st) s.heap.objs.size f cdv)) → sp vs H Q E →
      ∃ t, PSs (cxOf CX0 P w K mg base N qual (defScope st) f cdv A outer s H E).nox (defBody st) t ∧ t { nx := fun _ H' => Q .non H', rt := Q } (start N vs) H) :
    FnGR P w K mg base CX0 (k + 1) f (starSp ps.length sp) :=
  fn_starG F S cxUp_none hb fun cdv A outer s H vs Q E hr hsp => let ⟨t, h, q⟩ := hbody cdv A outer s H vs Q E hr hsp; ⟨t, h.nox, q⟩
end
section
variable {X : Cx} {CX : CXT} {k i : Nat} {f C : Addr} {sp : Sp} {E : XK} {x : Str} {e : Expr} {es : List Expr} {te : TE} {t : TA} {p pos p' : Pos} {pins : List (Addr × Obj)} {σ : L2.St} {H : Hp} {s : Shared} {Q : VK} {us : List Value} {vs : List V}
theorem run_makeGR (M : Mk X.K C f) (F : FnGR X.prog X.w X.K X.mg X.base CX k f sp) (hr : RoomG (k + 1) X.A) (hx : Passes CX X E) (I : Inv X pins σ H s) (r : Vals vs us) (h : MakeK C sp [] E vs H Q) :
    wpAny (model X.prog X.w) X.A (call (.ref C) us) (EP X pins σ Q) X.xe s := by
  have hq := h (s.heap.objs.size + 1) s.heap.objs.size (I.hok.fresh (Nat.le_add_right _ 1)) (I.hok.fresh (Nat.le_refl _)) (Nat.ne_of_lt (Nat.lt_add_one _))
  rw [List.append_nil] at hq
  have J := Inv.made (C := C) I
  have rv : Vals (V.ref (s.heap.objs.size + 1) :: vs) (Value.ref (s.heap.objs.size + 1) :: us) := .cons rfl r
  have run := codeAny_mono (F _ X.stack _ _ (Value.ref (s.heap.objs.size + 1) :: us) _ _ E (hr.make C us []) (J.env0.make C us []) rv hq) fun _ _ hq => er_of hx J hq
  refine wpAny_call (make_map (f := f) I.kIn M.makes M.init (beq_iff_eq.mp M.fn) (codeAny_mono run fun r s' z => ?_))
  match r, z with
  | .error _, z => exact z
  | .ok (.ret u), ⟨v, H', J', rn, ev, q⟩ =>
    subst ev
    exact ⟨rn, V.ref (s.heap.objs.size + 1), H', J', rfl, q⟩
/-- C(e, ..) -/
theorem pe_makeGR (M : Mk X.K C f) (F : FnGR X.prog X.w X.K X.mg X.base CX k f sp) (hr : RoomG (k + 1) X.A) (hg : Gl X x) (hm : X.mg x = some (.ref C)) (hx : Passes CX X E) (ha : PA X (e :: es) t)
    (hdb : (x == ("__debug__" : Str)) = false := by decide) (he : starEach (e :: es) X.env = (false, eval e X.env) :: starEach es X.env := by rfl) (hpl : (backTo pos (starEach es X.env)).any (·.1) = false := by rfl) : PE X (.Call (.Name x p) (e :: es) [] pos) (tMake C sp [] E t) :=
  ⟨fun pins s σ H _ I h => wpAny_Call_Name_kw (ld_glob I hg hm (PySem.W.callWith_K (h₀ := X.base) I.ok.mod.kin M.kp (thn (ha.run pos pins s σ H _ I h) fun _ _ ⟨_, _, J, r, q⟩ => ⟨J.kIn, run_makeGR M F hr hx J r q⟩) he hpl) hdb)⟩
/-- C() -/
theorem pe_makeGR0 (M : Mk X.K C f) (F : FnGR X.prog X.w X.K X.mg X.base CX k f sp) (hr : RoomG (k + 1) X.A) (hg : Gl X x) (hm : X.mg x = some (.ref C)) (hx : Passes CX X E) (hdb : (x == ("__debug__" : Str)) = false := by decide) : PE X (.Call (.Name x p) [] [] pos) (tMake C sp [] E tNil) :=
  ⟨fun _ _ _ _ _ I h => wpAny_Call_Name_kw (ld_glob I hg hm (PySem.W.callWith_K0 I.kIn M.kp (run_makeGR (us := []) M F hr hx I .nil h)) hdb)⟩
/-- C(*y) -/
def tMakeS (K : PySem.W.Frag) (C : Addr) (sp : Sp) (E : XK) (te : TE) : TE := fun σ H Q => te σ H fun y H1 => ∃ a xs, y = V.ref a ∧ (SqT K H1 a xs ∨ SqL K H1 a xs) ∧ MakeK C sp [] E xs H1 Q
theorem pe_makeGS1 (M : Mk X.K C f) (F : FnGR X.prog X.w X.K X.mg X.base CX k f sp) (hr : RoomG (k + 1) X.A) (hg : Gl X x) (hm : X.mg x = some (.ref C)) (hx : Passes CX X E) (he : PE X e te) (hd : (x == ("__debug__" : Str)) = false := by decide)
    (hst : starEach [.Starred e p'] X.env = [(true, eval e X.env)] := by rfl) : PE X (.Call (.Name x p) [.Starred e p'] [] pos) (tMakeS X.K C sp E te) := by
  refine ⟨fun pins s σ H Q I h => ?_⟩
  refine wpAny_Call_Name_kw (ld_glob I hg hm ?_ hd)
  refine PySem.W.callWith_S (h₀ := X.base) I.ok.mod.kin M.kp (thn (he.run pins s σ H _ I h) fun v s1 ⟨y, H1, I1, ry, a, xs, ey, hxs, q⟩ => ?_) hst
  subst ey
  obtain rfl : v = Value.ref a := ry
  exact star_any I1 hxs fun us s2 I2 rv => ⟨I2.kIn, run_makeGR M F hr hx I2 rv q⟩
/-- cls(*y), cls the name of a class method's first parameter -/
def tMakeLS (i : Nat) (K : PySem.W.Frag) (C : Addr) (sp : Sp) (E : XK) (te : TE) : TE := fun σ H Q => σ[i]? = some (some (.ref C)) ∧ tMakeS K C sp E te σ H Q
theorem pe_makeLS1 (M : Mk X.K C f) (F : FnGR X.prog X.w X.K X.mg X.base CX k f sp) (hr : RoomG (k + 1) X.A) (hN : X.N[i]? = some x) (hv : Vis X.env.scope x) (hx : Passes CX X E) (he : PE X e te) (hdb : (x == ("__debug__" : Str)) = false := by decide) (hcd : (x == ("__classdict__" : Str)) = false := by decide)
    (hst : starEach [.Starred e p'] X.env = [(true, eval e X.env)] := by rfl) : PE X (.Call (.Name x p) [.Starred e p'] [] pos) (tMakeLS i X.K C sp E te) := by
  refine ⟨fun pins s σ H Q I ⟨hs, h⟩ => wpAny_Call_Name_kw (thn ((pe_var (pos := p) hN hv hdb hcd).run pins s σ H (fun v H1 => v = .ref C ∧ H1 = H) I ⟨.ref C, hs, rfl, rfl⟩) fun u s1 ⟨v, H1, I1, r1, q1⟩ => ?_)⟩
  obtain ⟨rfl, rfl⟩ := q1
  cases (show u = Value.ref C from r1)
  refine PySem.W.callWith_S (h₀ := X.base) I1.ok.mod.kin M.kp (thn (he.run pins s1 σ _ _ I1 h) fun v s2 ⟨y, H2, I2, ry, a, xs, ey, hxs, q⟩ => ?_) hst
  subst ey
  obtain rfl : v = Value.ref a := ry
  exact star_any I2 hxs fun us s3 I3 rv => ⟨I3.kIn, run_makeGR M F hr hx I3 rv q⟩
end
section
variable {K : PySem.W.Frag} {H H1 : Hp} {σ : L2.St} {Q : VK} {E : XK} {sp : Sp} {C a p : Addr} {i : Nat} {xs rest : List V} {te : TE}
theorem st_makeS (q : te σ H fun y H1 => ∃ a xs, y = V.ref a ∧ (SqT K H1 a xs ∨ SqL K H1 a xs) ∧ MakeK C sp [] E xs H1 Q) : tMakeS K C sp E te σ H Q := q
theorem st_makeLS (hs : σ[i]? = some (some (.ref C))) (q : tMakeS K C sp E te σ H Q) : tMakeLS i K C sp E te σ H Q := ⟨hs, q⟩
/-- an instance by a star __init__ with no parameter but self ahead: the tuple stands at p -/
theorem mk_star (le : xs.length ≤ sizeLine) (q : ∀ x dx p H', H x = none → H p = none → Kp H H' → H' x = some (.ins C dx []) → H' p = some (.tup xs) → sp [.ref x, .ref p] H' (fun v H2 => v = .non ∧ Q (.ref x) H2) E) : MakeK C (starSp 1 sp) [] E xs H Q := by
  refine st_mkK fun x dx H1 hn k hx => ?_
  refine ⟨[.ref x], xs, by simp, rfl, le, fun p hp => ?_⟩
  have kp : Kp H1 (upd H1 p (.tup xs)) := Kp.new hp
  exact q x dx p _ hn (k.back hp) (k.trans kp) (kp _ _ hx) upd_same
end
end G
namespace G
open PySem PySem.Spec PySem.Calls PyProof.Rows L2
/-! ### enumerate(tuple) -/
section
open AutoSeq1 (wpAny_loadPart')
theorem meets_enumerate_newT (l : Addr) (items : Array Value) (n : Nat) (dct : Option Addr) (sl : Array (Option Value)) :
    Meets (Builtin.«enumerate.__new__» ⟨[.type "enumerate", .ref l], []⟩) (fun _ R s => s.heap.get? l = some { cls := .type "tuple", dict := dct, data := .seq items n, slots := sl } ∧
      R (.ok (.ret (.ref (s.heap.push { cls := .type "tuple_iterator", data := .fields #[.ref l, .int 0 0] }).objs.size)))
        { s with heap := (s.heap.push { cls := .type "tuple_iterator", data := .fields #[.ref l, .int 0 0] }).push { cls := .type "enumerate", data := .fields #[.none, .bool false, .ref s.heap.objs.size, rawInt 0, .none, .none] } }) :=
  .of_wp fun prog w A R s h => by
    obtain ⟨hp, g, d, tk, os⟩ := s; obtain ⟨hl, h⟩ := h
    have hsub := sub_enumerate
    have hL : Heap.IsTuple (Shared.heap ⟨hp, g, d, tk, os⟩) l items := ⟨_, hl, rfl, n, rfl⟩
    wp_walk using wpAny_loadPart' hl
    refine wpAny_stack_any fun st => wpAny_pure ?_
    split
    · rename_i c _ _ _ _ _
      cases (c == Value.type "enumerate")
      · wp_walk using wpAny_loadPart' hl, wpAny_pyIter_tuple hL
        exact ⟨_, rfl, h⟩
      · wp_walk using wpAny_loadPart' hl, wpAny_pyIter_tuple hL
        exact ⟨_, rfl, h⟩
    · wp_walk using wpAny_loadPart' hl, wpAny_pyIter_tuple hL
      exact ⟨_, rfl, h⟩
theorem call_enumerate_tuple {prog : Program} {w : World} {A : Around} {E : Value → Shared → Prop} {s : Shared} {l : Addr} {items : Array Value} {Q : Value → Shared → Prop} (hL : s.heap.IsTuple l items)
    (h : ∀ h', IsEnum h' (s.heap.objs.size + 1) s.heap.objs.size 0 .none → h'.IsTupleIter s.heap.objs.size l 0 → h'.objs.size = s.heap.objs.size + 2 →
      (∀ b o, s.heap.get? b = some o → h'.get? b = some o) → Q (.ref (s.heap.objs.size + 1)) { s with heap := h' }) :
    wpAny (model prog w) A (call (.type "enumerate") [.ref l]) Q E s := by
  obtain ⟨⟨c, dct, dt, sl⟩, hl, hc, n, hd⟩ := hL
  replace hc : c = .type "tuple" := hc
  replace hd : dt = .seq items n := hd
  subst hc hd
  refine callType_new F.called_enumerate (by decide) (F.typeCall_enumerate_1 _) (F.newCall_enumerate_1 _) (fun obj => F.args_object_init_2 obj _) F.entry_enumerate_new
    (meets_enumerate_newT l items n dct sl) ⟨hl, ?_⟩
  have hz : (s.heap.push { cls := .type "tuple_iterator", data := .fields #[.ref l, .int 0 0] }).objs.size = s.heap.objs.size + 1 := Heap.size_push ..
  show _ ∧ _
  rw [hz]
  have he : IsEnum ((s.heap.push { cls := .type "tuple_iterator", data := .fields #[.ref l, .int 0 0] }).push
      { cls := .type "enumerate", data := .fields #[.none, .bool false, .ref s.heap.objs.size, rawInt 0, .none, .none] }) (s.heap.objs.size + 1) s.heap.objs.size 0 .none := by
    have := Heap.get?_push_size (s.heap.push { cls := .type "tuple_iterator", data := .fields #[.ref l, .int 0 0] })
      (o := { cls := .type "enumerate", data := .fields #[.none, .bool false, .ref s.heap.objs.size, rawInt 0, .none, .none] }) rfl
    rw [hz] at this; exact this
  refine ⟨⟨_, he, rfl⟩, h _ he ⟨_, Heap.get?_push_of_some _ (Heap.get?_push_size _ rfl), rfl, rfl⟩ (by rw [Heap.size_push, hz]) fun b o x => Heap.get?_push_of_some _ (Heap.get?_push_of_some _ x)⟩
end
/-- the tuple at a as it stands at each turn, each item in a new pair -/
def IteT (K : PySem.W.Frag) (a : Addr) : It :=
  ⟨fun i H => ∃ (xs : List V) (x : V), SqT K H a xs ∧ xs[i]? = some x, fun i H v H' => ∃ T x, v = .ref T ∧ H T = none ∧ H' = upd H T (.tup [.int (i : Nat), x]) ∧ ∀ xs, SqT K H a xs → xs[i]? = some x, fun i H => ∃ xs : List V, SqT K H a xs ∧ xs.length = i⟩
theorem turn_enumT {P : Program} {w : World} {K : PySem.W.Frag} {elts : List Expr} {kk : Nat} {tpos : Pos} (a e it : Addr) :
    Turn P w K (.Tuple elts kk tpos) (IteT K a) [e, it] e (fun i h => (∃ old, IsEnum h e it ((i : Nat) : Int) old) ∧ h.IsTupleIter it a i ∧ e ≠ it) where
  mem := by simp
  obj := fun i h st b hb => by
    obtain ⟨⟨old, he⟩, ⟨o, ho, hc, hd⟩, _⟩ := st
    have e' : b = e ∨ b = it := by simpa using hb
    rcases e' with z | z
    · rw [z]; exact ⟨_, he, fun v q => nomatch q⟩
    · rw [z]; exact ⟨o, ho, fun v q => by rw [hd] at q; cases q⟩
  keep := fun i h h' st k => let ⟨⟨old, he⟩, hi, hne⟩ := st; ⟨⟨old, k e (by simp) _ he⟩, hi.at fun o q => k it (by simp) o q, hne⟩
  item := by
    intro X hP hw hK hc i pins s σ H E I hf st hg
    subst hP hw hK
    obtain ⟨⟨old, he⟩, hit, hne⟩ := st
    obtain ⟨xs, x, hq, hx⟩ := hg
    obtain ⟨its, rv, p, hz⟩ := I.tuple hq
    obtain ⟨u, hu, ru⟩ := rv.get hx
    have hT0 : s.heap.IsTuple a its.toArray := p
    have hai : a ≠ it := fun z => by
      obtain ⟨o1, q1, c1, d1⟩ := hit
      obtain ⟨o2, q2, c2, n2, d2⟩ := hT0
      rw [z, q1] at q2
      cases q2
      rw [d1] at d2
      cases d2
    have hea : e ∉ [it, a] := fun z => by
      simp only [List.mem_cons, List.not_mem_nil, or_false] at z
      rcases z with z | z
      · exact hne z
      · obtain ⟨o2, q2, c2, n2, d2⟩ := hT0
        have he' : s.heap.get? e = some { cls := .type "enumerate", data := .fields #[.none, .bool false, .ref it, rawInt ((i : Nat) : Int), .none, old] } := he
        rw [z, q2] at he'
        cases he'
        cases d2
    have hel : e < s.heap.objs.size := Heap.lt_size he
    have hil : it < s.heap.objs.size := by obtain ⟨_, q, _⟩ := hit; exact Heap.lt_size q
    have hlen : i < its.toArray.size := by
      have := (List.getElem?_eq_some_iff.mp hu).1
      simpa using this
    refine wpAny_pyNext_enum_itemD (Draws.tuple (A := X.A.in1) (show X.A.in1.handled = none from I.ok.hd hc) it a hai its.toArray) he ⟨hit, hT0⟩ hlen hne hea fun y h' tk hP' ho hit' hT hsz hk => ?_
    have hy : y = u := by
      have e1 : its.toArray[i]? = some u := by simpa using hu
      rw [e1] at hP'
      exact (Option.some.inj hP').symm
    subst hy
    refine ⟨_, rfl, wpAny_letOwnedTupleGo_enum (s := { s with heap := h', toks := tk + 1 }) ho fun h'' he' sb => ?_⟩
    have hT2 : h''.get? s.heap.objs.size = some { cls := .type "tuple", data := .seq #[.int i tk, y] } := (sb.2 _ (Nat.ne_of_gt hel)).trans hT
    have new : ObjOk X.prog X.w (upd H s.heap.objs.size (.tup [.int (i : Nat), x])) h'' s.heap.objs.size (.tup [.int (i : Nat), x]) :=
      ⟨by show 2 ≤ sizeLine; decide, [.int i tk, y], .cons ⟨_, rfl⟩ (.cons ru .nil), ⟨_, hT2, rfl, _, rfl⟩⟩
    have I1 : Inv X pins σ (upd H s.heap.objs.size (.tup [.int (i : Nat), x])) { s with heap := h'', toks := tk + 1 } :=
      I.turnedNew (ch := [e, it]) (fun b ob hb q => (sb.2 b (fun z => hb (by simp [z]))).trans (hk b ob (fun z => hb (by simp [z])) (fun z => hb (by simp [z])) q)) hf (Nat.le_refl _) new
    refine ⟨.ref s.heap.objs.size, _, I1, rfl, ⟨_, x, rfl, I.hok.fresh (Nat.le_refl _), rfl, fun ys hy => by rw [I.tuple_inj hy hq]; exact hx⟩, ⟨⟨y, ?_⟩, hit'.1.at fun o q => (sb.2 it (Ne.symm hne)).trans q, hne⟩, fun b hb => ?_⟩
    · have e1 : ((i + 1 : Nat) : Int) = (i : Int) + 1 := by omega
      rw [e1]; exact he'
    · have hb' : b < s.heap.objs.size := by
        have e' : b = e ∨ b = it := by simpa using hb
        rcases e' with z | z
        · rw [z]; exact hel
        · rw [z]; exact hil
      rw [upd_ne (Nat.ne_of_lt hb')]
      exact (hf b hb).1
  done := by
    intro X hP hw hK hc i pins s σ H E I hf st hg
    subst hP hw hK
    obtain ⟨⟨old, he⟩, hit, hne⟩ := st
    obtain ⟨xs, hq, hx⟩ := hg
    obtain ⟨its, rv, p, hz⟩ := I.tuple hq
    obtain ⟨f0, f1, f2, f3, f4, f5⟩ := hf it (by simp)
    have hl := rv.length
    have hT0 : s.heap.IsTuple a its.toArray := p
    have hai : a ≠ it := fun z => by
      obtain ⟨o1, q1, c1, d1⟩ := hit
      obtain ⟨o2, q2, c2, n2, d2⟩ := hT0
      rw [z, q1] at q2
      cases q2
      rw [d1] at d2
      cases d2
    have hn : its.toArray.size = i := by
      rw [List.size_toArray]
      omega
    exact wpAny_pyNext_enum_endD (Draws.tuple (A := X.A.in1) (show X.A.in1.handled = none from I.ok.hd hc) it a hai its.toArray) he (by rw [hn]; exact ⟨hit, hT0⟩) fun h' eb => ⟨rfl, I.turned (t' := s.toks) (fun b o hb q => eb b o hb q) f0 f1 f3 f4 f5⟩
  self := fun A i s Q E st h => let ⟨⟨_, he⟩, _⟩ := st; wpAny_pyIter_enum he h
/-- enumerate(tuple) -/
def iEnumT (K : PySem.W.Frag) (ta : TA) : TI := fun σ H R => ta σ H fun vs H1 => ∃ a xs, vs = [.ref a] ∧ SqT K H1 a xs ∧ R (IteT K a) H1
theorem pi_enumT {X : Cx} {e : Expr} {ta : TA} {p pos tpos : Pos} {elts : List Expr} {kk : Nat} (hg : Gl X "enumerate") (hm : X.mg "enumerate" = none) (ha : PA X [e] ta) (hs : starEach [e] X.env = [(false, eval e X.env)] := by rfl) :
    PI X (.Tuple elts kk tpos) (.Call (.Name "enumerate" p) [e] [] pos) (iEnumT X.K ta) := by
  refine ⟨fun pins s σ H R I h => ?_⟩
  refine Call_ (ld_blt I hg hm boot_enumerate (PyProof.Rows.callWith_type1 (thn (ha.run pos pins s σ H _ I h) fun us s1 ⟨vs, H1, I1, r1, q1⟩ => ?_) hs rfl))
  obtain ⟨a, xs, ex, hq, q⟩ := q1
  subst ex
  cases r1 with
  | cons r rr =>
    cases rr
    cases r
    obtain ⟨its, rv, p', hz⟩ := I1.tuple hq
    refine call_enumerate_tuple (show s1.heap.IsTuple a its.toArray from p') fun h' he hit hsz hk => wpAny_pyIter_enum he ?_
    have I2 : Inv X pins σ H1 { s1 with heap := h' } := I1.kept (t' := s1.toks) hk
    refine ⟨s1.heap.objs.size + 1, [s1.heap.objs.size + 1, s1.heap.objs.size], _, _, H1, rfl, I2, turn_enumT a (s1.heap.objs.size + 1) s1.heap.objs.size, ⟨⟨.none, he⟩, hit, Nat.succ_ne_self _⟩, fun b hb => ?_, q⟩
    have e' : b = s1.heap.objs.size + 1 ∨ b = s1.heap.objs.size := by simpa using hb
    have hle : s1.heap.objs.size ≤ b := by
      rcases e' with z | z
      · rw [z]; exact Nat.le_add_right _ _
      · rw [z]; exact Nat.le_refl _
    exact I1.fpOk hle (I1.hok.fresh hle)
/-- for i, x in enumerate(tuple) -/
theorem for_enT {K : PySem.W.Frag} {a : Addr} {xs : List V} {g : TG} {ts : TS} {n b c : L2.St → Hp → Prop} {r : VK} {σ : L2.St} {H : Hp} (Pv : Nat → L2.St → Hp → Prop) (h0 : Pv 0 σ H) (hl : ∀ i σ H, i ≤ xs.length → Pv i σ H → SqT K H a xs)
    (hs : ∀ i x σ H T H', xs[i]? = some x → Pv i σ H → H T = none → Kp H H' → H' T = some (.tup [.int (i : Nat), x]) → g (.ref T) σ H' fun σ2 H2 => ts ⟨Pv (i + 1), r, n, Pv (i + 1)⟩ σ2 H2) (hd : ∀ σ H, Pv xs.length σ H → n σ H) : ForK (IteT K a) g ts n r b c σ H := by
  show ∃ W : Nat → Nat → L2.St → Hp → Prop, (∃ m, W 0 m σ H) ∧ _
  refine ⟨fun i m σ H => m = xs.length - i ∧ i ≤ xs.length ∧ Pv i σ H, ⟨xs.length, by simp, Nat.zero_le _, h0⟩, ?_⟩
  rintro i m σ H ⟨rfl, hi, p⟩
  have q := hl i σ H hi p
  by_cases hlt : i < xs.length
  · refine .inr ⟨⟨xs, xs[i], q, by simp [hlt]⟩, Pv (i + 1), fun σ' H' p' => ⟨xs.length - (i + 1), by omega, rfl, hlt, p'⟩, fun x H' y => ?_⟩
    obtain ⟨T, z, ev, hT, eH, y⟩ := y
    subst ev eH
    exact hs i z σ H T _ (y xs q) p hT (Kp.new hT) upd_same
  · have e : i = xs.length := by omega
    subst e
    exact .inl ⟨⟨xs, q, rfl⟩, hd σ H p⟩
/-- for i, x in enumerate(list) -/
theorem for_enL {K : PySem.W.Frag} {a : Addr} {xs : List V} {g : TG} {ts : TS} {n b c : L2.St → Hp → Prop} {r : VK} {σ : L2.St} {H : Hp} (Pv : Nat → L2.St → Hp → Prop) (h0 : Pv 0 σ H) (hl : ∀ i σ H, i ≤ xs.length → Pv i σ H → SqL K H a xs)
    (hs : ∀ i x σ H T H', xs[i]? = some x → Pv i σ H → H T = none → Kp H H' → H' T = some (.tup [.int (i : Nat), x]) → g (.ref T) σ H' fun σ2 H2 => ts ⟨Pv (i + 1), r, n, Pv (i + 1)⟩ σ2 H2) (hd : ∀ σ H, Pv xs.length σ H → n σ H) : ForK (Ite K a) g ts n r b c σ H := by
  show ∃ W : Nat → Nat → L2.St → Hp → Prop, (∃ m, W 0 m σ H) ∧ _
  refine ⟨fun i m σ H => m = xs.length - i ∧ i ≤ xs.length ∧ Pv i σ H, ⟨xs.length, by simp, Nat.zero_le _, h0⟩, ?_⟩
  rintro i m σ H ⟨rfl, hi, p⟩
  have q := hl i σ H hi p
  by_cases hlt : i < xs.length
  · refine .inr ⟨⟨xs, xs[i], q, by simp [hlt]⟩, Pv (i + 1), fun σ' H' p' => ⟨xs.length - (i + 1), by omega, rfl, hlt, p'⟩, fun x H' y => ?_⟩
    obtain ⟨T, z, ev, hT, eH, y⟩ := y
    subst ev eH
    exact hs i z σ H T _ (y xs q) p hT (Kp.new hT) upd_same
  · have e : i = xs.length := by omega
    subst e
    exact .inl ⟨⟨xs, q, Nat.le_refl _⟩, hd σ H p⟩
theorem st_enT {K : PySem.W.Frag} {ta : TA} {σ : L2.St} {H : Hp} {R : It → Hp → Prop} (q : ta σ H fun vs H1 => ∃ a xs, vs = [.ref a] ∧ SqT K H1 a xs ∧ R (IteT K a) H1) : iEnumT K ta σ H R := q
theorem st_enL {K : PySem.W.Frag} {ta : TA} {σ : L2.St} {H : Hp} {R : It → Hp → Prop} (q : ta σ H fun vs H1 => ∃ a xs, vs = [.ref a] ∧ SqL K H1 a xs ∧ R (Ite K a) H1) : iEnum K ta σ H R := q
end G
namespace G
open PySem PySem.Spec PyProof.Rows L2
/-! ### dicts: y in d, d[y], d[y] = v; tuples put together, one of them empty or not -/
section
variable {K : PySem.W.Frag} {σ : L2.St} {H : Hp} {Q : VK} {td ty tv : TE} {a b p : Addr} {kvs : List (Key × V)} {v x : V} {s : Str} {i : Int} {n : L2.St → Hp → Prop} {r : VK} {bk c : L2.St → Hp → Prop} {xs ys zs : List V}
def DInK (b : Bool) (y x : V) (H : Hp) (Q : VK) : Prop := ∃ a o, x = .ref a ∧ DGet H a y o ∧ Q (.bl (if b then o.isSome else !o.isSome)) H
theorem st_din (q : ty σ H fun y H1 => td σ H1 fun x H2 => DInK true y x H2 Q) : tDIn ty td σ H Q := q
theorem st_dnotin (q : ty σ H fun y H1 => td σ H1 fun x H2 => DInK false y x H2 Q) : tDNotIn ty td σ H Q := q
theorem din_s (h : H a = some (.dK kvs)) (q : Q (.bl (valV kvs (.inr s)).isSome) H) : DInK true (.str s) (.ref a) H Q := ⟨a, _, rfl, .k (k := .inr s) h, q⟩
theorem din_i (h : H a = some (.dK kvs)) (q : Q (.bl (valV kvs (.inl i)).isSome) H) : DInK true (.int i) (.ref a) H Q := ⟨a, _, rfl, .k (k := .inl i) h, q⟩
theorem dnot_s (h : H a = some (.dK kvs)) (q : Q (.bl (!(valV kvs (.inr s)).isSome)) H) : DInK false (.str s) (.ref a) H Q := ⟨a, _, rfl, .k (k := .inr s) h, q⟩
theorem dnot_i (h : H a = some (.dK kvs)) (q : Q (.bl (!(valV kvs (.inl i)).isSome)) H) : DInK false (.int i) (.ref a) H Q := ⟨a, _, rfl, .k (k := .inl i) h, q⟩
def DGK (x y : V) (H : Hp) (Q : VK) : Prop := ∃ a v, x = .ref a ∧ DGet H a y (some v) ∧ Q v H
theorem st_dget (q : td σ H fun x H1 => ty σ H1 fun y H2 => DGK x y H2 Q) : tDGet td ty σ H Q := q
theorem dget_s (h : H a = some (.dK kvs)) (e : valV kvs (.inr s) = some v) (q : Q v H) : DGK (.ref a) (.str s) H Q := ⟨a, v, rfl, by rw [← e]; exact .k (k := .inr s) h, q⟩
theorem dget_i (h : H a = some (.dK kvs)) (e : valV kvs (.inl i) = some v) (q : Q v H) : DGK (.ref a) (.int i) H Q := ⟨a, v, rfl, by rw [← e]; exact .k (k := .inl i) h, q⟩
def DPK (x y v : V) (H : Hp) (R : Hp → Prop) : Prop := ∃ a H4, x = .ref a ∧ DPut H a y v H4 ∧ R H4
theorem st_dput (q : tv σ H fun v H1 => td σ H1 fun x H2 => ty σ H2 fun y H3 => DPK x y v H3 (n σ)) : sDPut td ty tv ⟨n, r, bk, c⟩ σ H := q
theorem MD.put {kvs' : List (Key × V)} (h : H a = some (.dK kvs)) : MD a H (upd H a (.dK kvs')) := ⟨⟨_, h⟩, fun b o n k _ => by rw [upd_ne n]; exact k, none_upd h, fun _ t => tab_upd h rfl (fun _ _ => dK_code) t⟩
theorem dput_i {R : Hp → Prop} (h : H a = some (.dK kvs)) (l : kvs.length < sizeLine) (q : ∀ H', MD a H H' → H' a = some (.dK (putK kvs (.inl i) v)) → R H') : DPK (.ref a) (.int i) v H R := ⟨a, _, rfl, .k (k := .inl i) h l, q _ (MD.put h) upd_same⟩
theorem dput_s {R : Hp → Prop} (h : H a = some (.dK kvs)) (l : kvs.length < sizeLine) (q : ∀ H', MD a H H' → H' a = some (.dK (putK kvs (.inr s) v)) → R H') : DPK (.ref a) (.str s) v H R := ⟨a, _, rfl, .k (k := .inr s) h l, q _ (MD.put h) upd_same⟩
theorem cat_a (h1 : SqT K H a xs) (h2 : SqT K H b ys) (l : xs.length + ys.length ≤ sizeLine) (q : ∀ p H', Kp H H' → SqT K H' p (xs ++ ys) → Q (.ref p) H') : rCatA K (.ref a) (.ref b) H Q :=
  ⟨a, b, xs, ys, rfl, rfl, h1, h2, l, fun e => q b H Kp.refl (by rw [e]; exact h2), fun _ e => q a H Kp.refl (by rw [e, List.append_nil]; exact h1), fun _ _ p hp => q p _ (Kp.new hp) (SqT.of upd_same)⟩
theorem sl_a {lo hi : Option Int} (h : SqT K H a xs) (q : ∀ p H', Kp H H' → SqT K H' p (cutV xs lo hi) → Q (.ref p) H') : rSlA K (.ref a) lo hi H Q :=
  ⟨a, xs, rfl, h, fun e => q a H Kp.refl (by
    have e2 : cutV xs lo hi = xs := by
      unfold cutV
      rw [e.1, e.2, List.drop_zero, Nat.sub_zero, List.take_length]
    rw [e2]
    exact h), fun _ p hp => q p _ (Kp.new hp) (SqT.of upd_same)⟩
theorem op_catAK {X : Cx} (e : X.K = K) : OpR X (binaryOp .Add) (rCatA K) := by subst e; exact op_catA
theorem sl_aK {X : Cx} (e : X.K = K) : SlR X (rSlA K) := by subst e; exact sl_tupA
end
section
variable {X : Cx} {CX : CXT} {k : Nat} {g : Addr} {fd : FuncData} {ps : List Str} {sp : Sp} {E : XK} {m : Str} {e : Expr} {ta : TE} {pos : Pos} {K : PySem.W.Frag}
/-- x.m, m a property, in a block (K told) -/
theorem pe_propPK (e0 : X.K = K) (he : PE X e ta) (F : FnG X.prog X.w K X.mg X.base CX k g fd ps sp) (hr : RoomG (k + 1) X.A) (hb : Binds K fd ps []) (hx : Passes CX X.nox E)
    (hab : attributeBase e m X.env (eval e X.env) = eval e X.env) : PE X (.Attribute e m pos) (tPropP K m g sp E ta) := by
  subst e0
  exact pe_propP he F hr hb hx hab
end
end G
namespace G
open PySem PySem.Spec PySem.Calls PyProof.Rows L2
/-! ### set(a list of ints), sorted of such a set -/
section
variable {P : Program} {w : World} {A : Around} {E : Value → Shared → Prop} {s : Shared}
/-- a set that has nothing yet -/
abbrev set0 (w : World) : Obj := { cls := .type "set", dict := none, data := .set #[] 0 (.fresh 0 0 (!w.params.followText "set-order")) }
theorem call_setL {l : Addr} {its : Array Value} {ns : List Int} {Q : Value → Shared → Prop} (hh : A.handled = none) (hl : s.heap.IsList l its) (hi : IntsAre its.toList ns) (hb : ns.length + 1 < scanBound)
    (h : ∀ (h' : Heap) (tk c : Nat), SetR w h' s.heap.objs.size (fun j => decide (j ∈ ns)) c → c ≤ ns.length → (∀ b o, s.heap.get? b = some o → h'.get? b = some o) → Q (.ref s.heap.objs.size) { s with heap := h', toks := tk }) :
    wpAny (model P w) A (call (.type "set") [.ref l]) Q E s := by
  have n1 : its.size = ns.length := by
    have := IntsAre.length hi
    rwa [Array.length_toList] at this
  have lt : l < s.heap.objs.size := by
    obtain ⟨_, e, _⟩ := hl
    exact Heap.lt_size e
  have at0 : (s.heap.push (set0 w)).get? s.heap.objs.size = some (set0 w) := Heap.get?_push_size _ rfl
  have ty0 : Shared.TypeIs { s with heap := s.heap.push (set0 w) } (.ref s.heap.objs.size) "set" := ⟨_, at0, rfl⟩
  -- the making: set.__new__, then set.__init__
  have mk : codeAny (model P w) A.in1 (.call (.builtin "set.__new__") ⟨[.type "set", .ref l], []⟩) (wants (fun v s1 => v = .ref s.heap.objs.size ∧ s1 = { s with heap := s.heap.push (set0 w) }) E) s := code_set_led1 (.ref l) ⟨rfl, rfl⟩
  obtain ⟨f1, f2, f3, ⟨c0, t0, f4⟩, f5, f6⟩ := id (show _ ∧ _ ∧ _ ∧ (∃ c tl, _) ∧ _ ∧ _ from ⟨F.called_set.notType, F.called_set.canCreate, F.typeCall_set_1 (.ref l), F.called_set.mro, F.called_set.made, F.called_set.sub⟩)
  refine wpAny_call (codeAny_of_tree ?_)
  show wpAny _ _ (callAny (.type "set") _) _ _ _
  refine wpAny_pure ⟨Code.quiet_builtin _ (by decide +kernel), codeAny_builtin F.entry_type_call ?_⟩
  rw [Around.under_plain (weight_type_call_type "set" [.ref l] []) rfl]
  repeat (any_goals (first | assumption | wp_step))
  refine codeAny_mono mk ?_
  rintro (er | fl) s1 hr
  · exact hr
  cases fl with
  | next => exact hr.elim
  | brk => exact hr.elim
  | cont => exact hr.elim
  | ret v =>
  obtain ⟨rfl, rfl⟩ := hr
  have i1 := F.called_set.init.lookup
  have i2 := F.called_set.init.bind (.ref s.heap.objs.size)
  repeat (any_goals (first | assumption | wp_step))
  refine codeAny_mono (codeAny_call_builtin (R := wants (fun r s₂ => r = .none ∧ Q (.ref s.heap.objs.size) s₂) E) F.called_set.init.plain F.entry_set_init (check_set_init_1 ty0 ?_)) ?_
  rotate_left
  · rintro (er | fl) s2 hr
    · exact hr
    cases fl with
    | next => exact hr.elim
    | brk => exact hr.elim
    | cont => exact hr.elim
    | ret v =>
    obtain ⟨rfl, hq⟩ := hr
    repeat (any_goals (first | assumption | wp_step))
  obtain ⟨ol, e1, ec, nl, ed⟩ := hl
  obtain ⟨cl, dc, dt, sl⟩ := ol
  cases ec
  cases (show dt = .seq its nl from ed)
  have e2 := Heap.get?_push_of_some (set0 w) e1
  have hl2 : (s.heap.push (set0 w)).IsList l its := ⟨_, e2, rfl, nl, rfl⟩
  have sb1 := F.sub_list_set
  have sb2 := F.sub_list_frozenset
  have nd : (Value.type "list" == Value.type "dict") = false := by decide
  unfold Builtin.«set.__init__» noKeywords Builtin.Frozenset.updateFrom
  generalize hPI : pyIter = PI
  wp_walk
  subst hPI
  refine wpAny_pyIter_list hl2 (wpAny_bind (wpAny_runValue ?_))
  have z1 : (s.heap.push (set0 w)).objs.size = s.heap.objs.size + 1 := Heap.size_push ..
  have ne1 : l ≠ (s.heap.push (set0 w)).objs.size := by rw [z1]; exact Nat.ne_of_lt (Nat.lt_succ_of_lt lt)
  have out : s.heap.objs.size ∉ [(s.heap.push (set0 w)).objs.size, l] := by
    simp only [List.mem_cons, List.not_mem_nil, or_false, not_or, z1]
    exact ⟨Nat.ne_of_lt (Nat.lt_succ_self _), Nat.ne_of_gt lt⟩
  have ok : ∀ (i : Nat) (v : Value), its[i]? = some v → ∃ k t, ns[i]? = some k ∧ v = .int k t := fun i v hv => by
    obtain ⟨t, e⟩ := IntsAre.int_at hi i v (by rw [Array.getElem?_toList]; exact hv)
    have lt2 : i < ns.length := by rw [← n1]; exact (Array.getElem?_eq_some_iff.mp hv).1
    exact ⟨ns.getD i 0, t, by rw [List.getD_eq_getElem?_getD, List.getElem?_eq_getElem lt2]; rfl, e⟩
  have hh2 : A.in1.in1.in1.handled = none := by simp [hh]
  refine set_update_ints ((Walks.list hh2 _ l ne1 its).toS) s.heap.objs.size out ns n1 hb ok its.size 0 _ (by omega) (Nat.zero_le _) ⟨⟨_, Heap.get?_push_size _ rfl, rfl, rfl⟩, hl2.push _⟩ ⟨0, Nat.le_refl 0, setR_new_at (Heap.get?_push_of_some _ at0)⟩ ?_
  intro s2 c hm hc hS
  have g1 : s2.gens = s.gens := hm.gens
  have g2 : s2.drawn = s.drawn := hm.drawn
  have g3 : s2.os = s.os := hm.os
  have kp : ∀ b o, s.heap.get? b = some o → s2.heap.get? b = some o := fun b o e => by
    have lb := Heap.lt_size e
    refine hm.heap b o (fun hz => ?_) (Heap.get?_push_of_some _ (Heap.get?_push_of_some _ e))
    simp only [List.mem_cons, List.not_mem_nil, or_false, z1] at hz
    rcases hz with hz | hz
    · exact Nat.ne_of_lt lb hz
    · exact Nat.ne_of_lt (Nat.lt_succ_of_lt lb) hz
  have fin := h s2.heap s2.toks c hS (by omega) kp
  rw [← g1, ← g2, ← g3] at fin
  exact wpAny_pure (wpAny_pure ⟨rfl, fin⟩)
end
end G
namespace G
open PySem PySem.Spec PySem.Calls PyProof.Rows L2
section
variable {X : Cx} {K : PySem.W.Frag} {w : World} {H : Hp} {Q : VK} {a : Addr} {ns : List Int}
/-- set(a list of ints) -/
def rSetL (K : PySem.W.Frag) (w : World) : List V → Hp → VK → Prop := fun xs H Q => ∃ (l : Addr) (ns : List Int), xs = [V.ref l] ∧ SqL K H l (ns.map V.int) ∧ ns.length ≤ 1000 ∧ ∀ p c, H p = none → c ≤ ns.length → Q (.ref p) (upd H p (SetO w p (fun j => decide (j ∈ ns)) c))
theorem cr_setL (hc : X.calm = true) : CallR X (.type "set") (rSetL X.K X.w) := by
  rintro pins s σ H _ us Q I r ⟨l, ns, rfl, hl, n1, q⟩
  rw [Vals.ref1 r]
  obtain ⟨its, rv, pl, _⟩ := I.list hl
  exact call_setL (I.ok.hd hc) pl.isList rv.ints (by unfold scanBound; omega) fun h' tk c R le k =>
    ⟨.ref _, upd H _ (SetO X.w _ _ c), I.laid (t' := tk) k (Nat.le_refl _) (setO_new R), rfl, q _ c (I.hok.fresh (Nat.le_refl _)) le⟩
/-- sorted(such a set) -/
def rSortedS (w : World) : List V → Hp → VK → Prop := fun xs H Q => ∃ (a : Addr) (S : Int → Bool) (n : Nat), xs = [V.ref a] ∧ H a = some (SetO w a S n) ∧ n < 64 ∧ ∀ (ns : List Int) (p : Addr), ns.Pairwise (· < ·) → (∀ k, k ∈ ns ↔ S k = true) → H p = none → Q (.ref p) (upd H p (.lst (ns.map V.int)))
theorem cr_sortedSet (hc : X.calm = true) : CallR X (.builtin "sorted") (rSortedS X.w) := by
  rintro pins s σ H _ us Q I r ⟨a, S, n, rfl, ha, n1, q⟩
  rw [Vals.ref1 r]
  refine sorted_set (setO_get I ha) (I.ok.hd hc) n1 fun s2 p out c ns kp g o hp hg hi up mem len => ?_
  have new := I.hok.fresh hp
  obtain ⟨h2, gs, d2, t2, os2⟩ := s2
  cases (show gs = s.gens from g)
  cases (show os2 = s.os from o)
  have J : Inv X pins σ (upd H p (.lst (ns.map V.int))) { s with heap := h2, drawn := d2, toks := t2 } :=
    I.call (ch := []) (Un.laid kp hp new) (I.hok.laid kp hp ⟨by rw [List.length_map, len, sizeLine_eq]; omega, out.toList, c, vals_of_ints hi, hg⟩) I.bare (fun _ z => nomatch z)
  exact ⟨.ref p, _, J, rfl, q ns p up mem new⟩
theorem set_l (h : SqL K H a (ns.map V.int)) (l : ns.length ≤ 1000) (q : ∀ p c H', H p = none → Kp H H' → c ≤ ns.length → H' p = some (SetO w p (fun j => decide (j ∈ ns)) c) → Q (.ref p) H') : rSetL K w [.ref a] H Q :=
  ⟨a, ns, rfl, h, l, fun p c e le => q p c _ e (Kp.new e) le upd_same⟩
theorem sorted_s {S : Int → Bool} {n : Nat} (h : H a = some (SetO w a S n)) (l : n < 64) (q : ∀ (p : Addr) (ms : List Int) (H' : Hp), H p = none → Kp H H' → ms.Pairwise (· < ·) → (∀ k, k ∈ ms ↔ S k = true) → H' p = some (.lst (ms.map V.int)) → Q (.ref p) H') : rSortedS w [.ref a] H Q :=
  ⟨a, S, n, rfl, h, l, fun ms p up mem e => q p ms _ e (Kp.new e) up mem upd_same⟩
theorem sorted_i (h : SqL K H a (ns.map V.int)) (q : ∀ (p : Addr) (ms : List Int) (H' : Hp), H p = none → Kp H H' → ms.Perm ns → ms.Pairwise (· ≤ ·) → H' p = some (.lst (ms.map V.int)) → Q (.ref p) H') : rSortedI K [.ref a] H Q :=
  ⟨a, ns, rfl, h, fun ms p pm up e => q p ms _ e (Kp.new e) pm up upd_same⟩
end
end G
namespace G
open PySem PySem.Spec PyProof.Rows L2
/-! ### [e for k in d], d a dict that stands still -/
section
variable {K : PySem.W.Frag} {H H1 H' : Hp} {Q : VK} {d : Addr} {od : Obj} {kvs : List (Key × V)} {σ σ0 : L2.St} {vs : List Nat} {g : TG} {tt : TT} {te : TE} {t : TE} {j : Nat} {u : HO} {R : It → Hp → Prop}
theorem frz_code {c : Addr} {q : Str} {o : Obj} : HO.frz o u ≠ LamX.CodeO c q := fun z => by cases z
theorem kp_unlock (hd : H d = some (.dK kvs)) (k : Kp (upd H d (.frz od (.dK kvs))) H') (e : H' d = some (.frz od (.dK kvs))) : Kp H (upd H' d (.dK kvs)) where
  all := fun b o h z => by
    by_cases c : b = d
    · subst c
      rw [hd] at h
      cases h
      exact upd_same
    · rw [upd_ne c]
      exact k.all b o (by rw [upd_ne c]; exact h) z
  gone := fun b h => by
    have h1 := none_upd e b h
    exact none_upd hd b (k.gone b h1)
  tb := fun P h => tab_upd e rfl (fun _ _ => frz_code) (k.tb P (tab_upd hd rfl (fun _ _ => dK_code) h))
theorem st_lockK (hd : H d = some (.dK kvs)) (q : ∀ od H1, (∀ H', Kp H1 H' → H' d = some (.frz od (.dK kvs)) → Kp H (upd H' d (.dK kvs))) → (∀ b, b ≠ d → H1 b = H b) → H1 d = some (.frz od (.dK kvs)) → t σ H1 fun v H' => H' d = some (.frz od (.dK kvs)) ∧ Q v (upd H' d (.dK kvs))) : tLockE t σ H Q :=
  ⟨d, .dK kvs, hd, trivial, fun od => q od _ (fun _ k e => kp_unlock hd k e) (fun _ n => upd_ne n) upd_same⟩
theorem st_iKeys {td : TE} (q : td σ H fun x H1 => ∃ d o, x = .ref d ∧ ((∃ kvs, H1 d = some (.frz o (.dK kvs)) ∧ R (Itk d o kvs) H1) ∨ ∃ kvs, H1 d = some (.frz o (.dT kvs)) ∧ R (Itkt d o kvs) H1)) : iKeys td σ H R := q
theorem lc_keysG (Pv : Addr → Nat → Hp → Prop) (e : wipe σ vs = σ0) (h0 : ∀ D H2, H1 D = none → Kp H1 H2 → H2 D = some (.lst []) → Pv D 0 H2) (hl : ∀ D i H, i ≤ kvs.length → Pv D i H → H d = some (.frz od (.dK kvs)))
    (hs : ∀ D i k v H, kvs[i]? = some (k, v) → Pv D i H → g (kV k) σ0 H fun σ2 H2 => WipK vs σ2 σ0 (tt σ2 H2 fun b H3 => LcB b te D σ2 H3 (Pv D (i + 1)))) (hd : ∀ D H, Pv D kvs.length H → Q (.ref D) H) : LcK (Itk d od kvs) g tt te vs σ H1 Q := fun D hD => by
  subst e
  refine ⟨fun i m H => m = kvs.length - i ∧ i ≤ kvs.length ∧ Pv D i H, ⟨kvs.length, by simp, Nat.zero_le _, h0 D _ hD (Kp.new hD) upd_same⟩, ?_⟩
  rintro i m H ⟨rfl, hi, p⟩
  have q := hl D i H hi p
  by_cases lt : i < kvs.length
  · refine .inr ⟨⟨q, lt⟩, Pv D (i + 1), fun H' p' => ⟨kvs.length - (i + 1), by omega, rfl, lt, p'⟩, ?_⟩
    rintro x H' ⟨rfl, k, v, hk, rfl⟩
    exact hs D i k v H' hk p
  · have e : i = kvs.length := by omega
    subst e
    exact .inl ⟨⟨q, Nat.le_refl _⟩, hd D H p⟩
/-- [int(k) for k in d] -/
theorem keysI {ks : List Int} {i : Nat} (hd : H d = some (.dK kvs)) (hk : kvs.map (·.1) = ks.map Sum.inl) (l : ks.length ≤ 900) (hv : σ[i]? = some (some (.ref d))) (e : wipe σ vs = σ0) (e2 : ∀ x, wipe (σ0.set j (some x)) vs = σ0) (hj : ∀ x, (σ0.set j (some x))[j]? = some (some x))
    (q : ∀ p H', H p = none → Kp H H' → H' p = some (.lst (ks.map V.int)) → Q (.ref p) H') : tLockE (tLc (iKeys (tVar i)) (gName j) tYes (tCB rIntG (tCons (tVar j) tNil)) vs) σ H Q := by
  have len : kvs.length = ks.length := by
    have := congrArg List.length hk
    simpa using this
  refine st_lockK hd fun od H1 back oth h1 => ?_
  refine st_lc (st_iKeys ⟨_, hv, d, od, rfl, .inl ⟨kvs, h1, ?_⟩⟩)
  refine lc_keysG (fun D n H' => H1 D = none ∧ n ≤ ks.length ∧ H' D = some (.lst ((ks.take n).map V.int)) ∧ Kp H1 H') e (fun D H2 hn k eD => ⟨hn, Nat.zero_le _, by simpa using eD, k⟩) (fun D n H' _ h => h.2.2.2 _ _ h1) ?_ ?_
  · rintro D n k v H' hkv ⟨hn, hi, eD, kk⟩
    have lt : n < ks.length := by
      have := (List.getElem?_eq_some_iff.mp hkv).1
      omega
    have ek : k = .inl ks[n] := by
      have h2 : (kvs.map (·.1))[n]? = some k := by rw [List.getElem?_map, hkv]; rfl
      rw [hk, List.getElem?_map, List.getElem?_eq_getElem lt] at h2
      exact (Option.some.inj h2).symm
    subst ek
    refine ⟨e2 _, ?_⟩
    show LcB true _ D _ H' _
    refine st_lcT (st_cb ?_)
    refine st_cons ⟨_, hj _, st_nil (int_i ?_)⟩
    refine st_app eD (by rw [sizeLine_eq, List.length_map, List.length_take]; omega) fun H3 m e3 => ⟨hn, lt, ?_, kk.md_new m hn⟩
    rw [List.take_add_one, List.getElem?_eq_getElem lt, List.map_append]
    exact e3
  · rintro D H' ⟨hn, _, eD, kk⟩
    rw [len, List.take_length] at eD
    have nd : D ≠ d := fun z => by rw [z, h1] at hn; cases hn
    have hd' := kk _ _ h1
    exact ⟨hd', q D _ (by rw [← oth D nd]; exact hn) (back H' kk hd') (by rw [upd_ne nd]; exact eD)⟩
end
end G
namespace G
open PySem PySem.Spec PyProof.Rows L2
/-! ### t[::-1] of a tuple -/
section
variable {prog : Program} {w : World} {A : Around} {E : Value → Shared → Prop} {s : Shared}
theorem places_rev (n : Nat) : Builtin.Slice.slicePlaces ((n : Int) - 1) (-1) (-1) = n := by
  unfold Builtin.Slice.slicePlaces
  rw [if_neg (by decide)]
  by_cases h : ((n : Int) - 1) > -1
  · rw [if_pos h, show (- -1 : Int) = 1 by decide, Int.ediv_one]
    omega
  · rw [if_neg h]
    omega
theorem pick_rev (xs : Array Value) : ((List.range xs.size).filterMap fun (k : Nat) => xs[((xs.size : Int) - 1 + (k : Int) * (-1)).toNat]?).toArray = xs.toList.reverse.toArray := by
  have e : (List.range xs.size).filterMap (fun (k : Nat) => xs[((xs.size : Int) - 1 + (k : Int) * (-1)).toNat]?) = ((List.range xs.size).map fun k => xs.size - 1 - k).filterMap (xs[·]?) := by
    rw [List.filterMap_map]
    refine fm_congr fun k hk => ?_
    have := List.mem_range.mp hk
    have e2 : ((xs.size : Int) - 1 + (k : Int) * (-1)).toNat = xs.size - 1 - k := by omega
    show _ = xs[xs.size - 1 - k]?
    rw [e2]
  rw [e, PySem.W.krv_range, List.filterMap_reverse, PySem.W.krv_all]
theorem applied_rev {sl : Addr} {vl vu vs : Value} {n : Nat} {Q : Int × Int × Nat → Shared → Prop} (hs : s.heap.IsSliceOf sl vl vu vs) (pl : IsPart vl none) (pu : IsPart vu none) (ps : IsPart vs (some (-1)))
    (h : Q ((n : Int) - 1, -1, n) s) : wpAny (model prog w) A (Builtin.Slice.sliceApplied (.ref sl) (pure (n : Int))) Q E s := by
  obtain ⟨os, hos, _, hds⟩ := id hs
  unfold Builtin.Slice.sliceApplied Builtin.Slice.sliceFields
  refine wpAny_bind (wpAny_bind (wpAny_field hos hds (x := vl) rfl (wpAny_bind (wpAny_field hos hds (x := vu) rfl (wpAny_bind (wpAny_field hos hds (x := vs) rfl (wpAny_pure ?_)))))))
  refine wpAny_bind (HT.slicePart_ ps ?_)
  show wpAny _ _ (if ((-1 : Int) == 0) = true then _ else _) _ _ s
  rw [if_neg (by decide)]
  refine wpAny_bind (HT.slicePart_ pl (wpAny_bind (HT.slicePart_ pu (wpAny_bind (wpAny_pure ?_)))))
  show wpAny _ _ (pure ((n : Int) - 1, (-1 : Int), Builtin.Slice.slicePlaces ((n : Int) - 1) (-1) (-1))) _ _ s
  rw [places_rev]
  exact wpAny_pure h
theorem item_rev {t sl : Addr} {items : Array Value} {vl vu vs : Value} {Q : Value → Shared → Prop} (ht : IsTup s.heap t items) (hs : s.heap.IsSliceOf sl vl vu vs) (pl : IsPart vl none) (pu : IsPart vu none) (ps : IsPart vs (some (-1)))
    (h : Q (.ref s.heap.objs.size) { s with heap := s.heap.push { cls := .type "tuple", data := .seq items.toList.reverse.toArray } }) (hsz : items.size ≤ sizeLine) : wpAny (model prog w) A (getItem (.ref t) (.ref sl)) Q E s := by
  obtain ⟨os, hos, hcs, hds⟩ := id hs
  have ok : sizeOk (.seq items.toList.reverse.toArray) := by
    show items.toList.reverse.toArray.size ≤ sizeLine
    rw [List.size_toArray, List.length_reverse, Array.length_toList]
    exact hsz
  unfold getItem
  refine wpAny_holding ?_
  refine wpAny_bind (wpAny_sequenceKey ht.typeIs (by decide) ?_)
  refine wpAny_bind (wpAny_callSpecial?_slot (name := Str.ofString "__getitem__") ht.typeIs PyProof.Rows.slot_tuple_getitem (wpAny_call_entry PyProof.Rows.slot_tuple_getitem ht.typeIs entry_tuple_getitem ?_ (args_tuple_getitem _ _)))
  show wpAny _ _ (Builtin.Tuple.tupleItemsOf (.ref t) >>= _) _ _ s
  refine wpAny_bind (tupleItemsOf_ ht (wpAny_bind (wpAny_typeOf ⟨os, hos, hcs⟩ ?_)))
  rw [if_pos (by decide)]
  refine wpAny_bind (applied_rev hs pl pu ps ?_)
  have no : ¬ (((items.size : Int) - 1 == 0 && (-1 : Int) == 1 && items.size == items.size) = true) := by simp
  show wpAny _ _ (if ((items.size : Int) - 1 == 0 && (-1 : Int) == 1 && items.size == items.size) = true then _ else _) _ _ s
  rw [if_neg no, pick_rev]
  exact wpAny_bind (m := Builtin.Tuple.tupleExact _) (wpAny_newObj_type (wpAny_bind (wpAny_pure (wpAny_pure ⟨_, rfl, wpAny_pure h⟩))) ok)
end
end G
namespace G
open PySem PySem.Spec PyProof.Rows L2
section
variable {X : Cx} {K : PySem.W.Frag} {H : Hp} {σ : L2.St} {Q : VK} {p : Addr} {xs zs : List V}
def RevTK (K : PySem.W.Frag) (x : V) (H : Hp) (Q : VK) : Prop := ∃ a xs, x = .ref a ∧ SqT K H a xs ∧ ∀ p, H p = none → Q (.ref p) (upd H p (.tup xs.reverse))
def tRevT (K : PySem.W.Frag) (te : TE) : TE := fun σ H Q => te σ H fun x H1 => RevTK K x H1 Q
theorem pe_revT {e : Expr} {te : TE} {k : Nat} {p1 p2 p3 pos : Pos} (e0 : X.K = K) (he : PE X e te) : PE X (.Subscript e (.Slice none none (some (.UnaryOp .USub (.Constant (.int 1) k p1) p2)) p3) pos) (tRevT K te) := by
  subst e0
  have one : PO X (some (.UnaryOp .USub (.Constant (.int 1) k p1) p2)) (tPart (tUn (rU fun i => .int (-i)) (tC (.int 1)))) := po_some (pe_un un_neg pe_int)
  refine ⟨fun pins s σ H Q I h => Subscript_ (thn (he.run pins s σ H _ I h) fun v s1 ⟨x, H1, I1, r1, a, xs, ex, hx, q⟩ => ?_)⟩
  subst ex
  cases r1
  refine wpAny_Slice (thn (po_none.run pins s1 σ H1 (fun o H2 => o = none ∧ H2 = H1) I1 ⟨rfl, rfl⟩) fun vl s2 ⟨l, H2, I2, pl, el, e2⟩ => thn (po_none.run pins s2 σ H2 (fun o H3 => o = none ∧ H3 = H2) I2 ⟨rfl, rfl⟩) fun vu s3 ⟨u, H3, I3, pu, eu, e3⟩ =>
    thn (one.run pins s3 σ H3 (fun o H4 => o = some (-1) ∧ H4 = H3) I3 ⟨1, rfl, -1, rfl, rfl, rfl⟩) fun vs s4 ⟨o, H4, I4, ps, eo, e4⟩ => ?_)
  subst el e2 eu e3 eo e4
  have I5 : Inv X pins σ H4 { s4 with heap := s4.heap.push { cls := .type "slice", data := .fields #[vl, vu, vs] } } := I4.kept (t' := s4.toks) fun b ob q => Heap.get?_push_of_some _ q
  obtain ⟨its, r, ht, hz⟩ := I5.tuple hx
  have hlen := r.length
  show wpAny (model X.prog X.w) X.A (subscriptTail e (.Slice none none (some (.UnaryOp .USub (.Constant (.int 1) k p1) p2)) p3) (.ref a) (.ref s4.heap.objs.size)) (EP X pins σ Q) X.xe { s4 with heap := s4.heap.push { cls := .type "slice", data := .fields #[vl, vu, vs] } }
  refine tail_any (ops := [.ref a, .ref s4.heap.objs.size]) ht.typeIs (PyProof.Rows.slot_tuple_getitem.lookup) ?_ (by with_unfolding_all rfl)
  refine item_rev ht (Heap.IsSliceOf.new _ vl vu vs) pl pu ps ?_ (by rw [List.size_toArray]; omega)
  refine ⟨.ref _, _, I5.laid (t' := s4.toks) (o := .tup xs.reverse) (fun b ob q => Heap.get?_push_of_some _ q) (Nat.le_refl _) ?_, rfl, q _ (I5.hok.fresh (Nat.le_refl _))⟩
  exact ⟨by rw [List.length_reverse]; exact hz, _, r.reverse, IsTup.new _ _⟩
theorem st_revT {te : TE} (q : te σ H fun x H1 => RevTK K x H1 Q) : tRevT K te σ H Q := q
theorem revTK (h : SqT K H p xs) (e : xs.reverse = zs) (q : ∀ y H', H y = none → Kp H H' → H' y = some (.tup zs) → Q (.ref y) H') : RevTK K (.ref p) H Q := ⟨p, xs, rfl, h, fun y hy => q y _ hy (Kp.new hy) (by rw [e]; exact upd_same)⟩
end
end G
namespace G
open PySem PySem.Spec PyProof.Rows L2
/-! ### tuples put together and sliced, told by what stands in the heap -/
section
variable {K : PySem.W.Frag} {H : Hp} {Q : VK} {a b : Addr} {xs ys : List V}
theorem cat_h (h1 : H a = some (.tup xs)) (h2 : H b = some (.tup ys)) (l : xs.length + ys.length ≤ sizeLine) (q : ∀ p H', Kp H H' → H' p = some (.tup (xs ++ ys)) → Q (.ref p) H') : rCatA K (.ref a) (.ref b) H Q :=
  ⟨a, b, xs, ys, rfl, rfl, .of h1, .of h2, l, fun e => q b H .refl (by rw [e]; exact h2), fun _ e => q a H .refl (by rw [e, List.append_nil]; exact h1), fun _ _ p hp => q p _ (Kp.new hp) upd_same⟩
theorem sl_h {lo hi : Option Int} (h : H a = some (.tup xs)) (q : ∀ p H', Kp H H' → H' p = some (.tup (cutV xs lo hi)) → Q (.ref p) H') : rSlA K (.ref a) lo hi H Q :=
  ⟨a, xs, rfl, .of h, fun hw => q a H .refl (by
    have e : cutV xs lo hi = xs := by
      rw [cutV, hw.1, hw.2, List.drop_zero, Nat.sub_zero, List.take_length]
    rw [e]
    exact h), fun _ p hp => q p _ (Kp.new hp) upd_same⟩
end
end G
namespace G
open PySem PySem.Spec PySem.Calls PyProof.Rows L2
/-! ### C.m(..), m a def of the class itself -/
/-- C.m is a def -/
def cfnB (x m : Str) : ExB := fun K => (match PySem.W.findCls K (.ref (He.ga K x)) (.type "type") m with
  | some (.val (.ref a)) => decide (a = He.ma K (He.ga K x) m)
  | _ => false) && PySem.W.keepIn K (.ref (He.ma K (He.ga K x) m))
structure CFn (K : PySem.W.Frag) (C : Addr) (mc : Value) (m : Str) (g : Addr) : Prop where
  at_ : PySem.W.findCls K (.ref C) mc m = some (.val (.ref g))
  kp : PySem.W.keepIn K (.ref g) = true
theorem cfnB_ok {K : PySem.W.Frag} {x m : Str} (h : cfnB x m K = true) : CFn K (He.ga K x) (.type "type") m (He.ma K (He.ga K x) m) := by
  obtain ⟨h1, h2⟩ := He.ba h
  split at h1
  · rename_i a e
    exact ⟨by rw [e, of_decide_eq_true h1], h2⟩
  · cases h1
section
variable {X : Cx} {CX : CXT} {k : Nat} {C g : Addr} {mc : Value} {sp : Sp} {E : XK} {o e : Expr} {es : List Expr} {m : Str} {pos apos : Pos} {ta : TE} {t : TA} {pl : Sem Bool} {fd : FuncData} {ps : List Str} {dvs : List V} {ds : List Value}
theorem pe_cfn (he : PE X o ta) (r : ClX.CRead X.K C mc) (c : CFn X.K C mc m g) (F : FnG X.prog X.w X.K X.mg X.base CX k g fd ps sp) (hr : RoomG k X.A) (hb : Binds X.K fd ps ds) (hd : Vals dvs ds) (hx : Passes CX X E) (ha : PA X (e :: es) t)
    (hst : starEach (e :: es) X.env = (false, eval e X.env) :: starEach es X.env := by rfl) (hpl : (backTo pos (starEach es X.env)).any (·.1) = false := by rfl)
    (ht : eval (.Call (.Attribute o m apos) (e :: es) [] pos) X.env = (do
      let ov ← eval o X.env
      standAt apos.atName
      let (f, first) ← holding [ov] (getMethod ov m pl)
      callWith pos f first (backTo pos (starEach (e :: es) X.env)) (backToKw pos (keywordEach [] X.env))) := by rfl) :
    PE X (.Call (.Attribute o m apos) (e :: es) [] pos) (tSM C sp dvs E ta t) := by
  refine ⟨fun pins s σ H Q I h => ?_⟩
  refine PySem.W.methodCall_KW (pl := pl) (thn (he.run pins s σ H _ I h) fun u s1 ⟨x, H1, I1, rx, ex, q⟩ => ?_) ht
  subst ex
  obtain rfl : u = Value.ref C := rx
  refine PySem.W.method_cls I1.kIn r.ga (PySem.W.cls_value I1.kIn r.rd c.at_ rfl ?_)
  have I2 := I1.tok (s1.toks + 1)
  refine PySem.W.callWith_K (first := []) (h₀ := X.base) I2.ok.mod.kin c.kp (thn (ha.run pos pins _ σ H1 _ I2 q) fun us s2 ⟨vs, H2, I3, rv, q2⟩ => ⟨I3.kIn, ?_⟩) hst hpl
  exact run_fnG F hr hb hd hx I3 rv q2
end
/-! ### two roads for one expression -/
def tOr (a b : TE) : TE := fun σ H Q => a σ H Q ∨ b σ H Q
theorem pe_or {X : Cx} {e : Expr} {a b : TE} (ha : PE X e a) (hb : PE X e b) : PE X e (tOr a b) := ⟨fun pins s σ H Q I h => h.elim (ha.run pins s σ H Q I) (hb.run pins s σ H Q I)⟩
/-! ### == of tuples, == and != of lists, whose items are the same objects or are compared by their own defs -/
def TSteps (M : Model) (A : Around) (E : Value → Shared → Prop) : List (Value × Value) → (Bool → Shared → Prop) → Shared → Prop
  | [], Q, s => Q true s
  | (x, y) :: t, Q, s => wpAny M A.in1 (eqBool x y) (fun c s' => if c = true then TSteps M A E t Q s' else Q false s') E s
section
variable {prog : Program} {w : World} {A : Around} {E : Value → Shared → Prop} {R : Result → Shared → Prop}
theorem tuple_eqO (l b : Addr) (items items2 : Array Value) (n n2 : Nat) (dd dd2 : Option Addr) (sl sl2 : Array (Option Value)) (hsz : items.size = items2.size) {s : Shared}
    (hl1 : s.heap.get? l = some { cls := .type "tuple", dict := dd, data := .seq items n, slots := sl }) (hb1 : s.heap.get? b = some { cls := .type "tuple", dict := dd2, data := .seq items2 n2, slots := sl2 })
    (h : TSteps (model prog w) A (fun e s' => R (.error e) s') (items.toList.zip items2.toList) (fun c s' => R (.ok (.ret (.bool c))) s') s) :
    wpAny (model prog w) A.in1 (Builtin.«tuple.__eq__» ⟨[.ref l, .ref b], []⟩) (fun fin s' => match fin with
        | Fin.done f => R (Except.ok f) s'
        | Fin.again c' => c'.quiet = true ∧ codeAny (model prog w) A c' R s') (fun e s' => R (.error e) s') s := by
  have f2 := AutoSeq1.sub_tuple_tuple
  have h0 := h
  obtain ⟨hp, g, d, tk, os⟩ := s
  wp_walk using wpAny_loadPart' hl1, wpAny_loadPart' hb1, wpAny_forIn_list _ (fun rest b s' => b.1 = none ∧ TSteps (model prog w) A (fun e s' => R (.error e) s') rest (fun c s' => R (.ok (.ret (.bool c))) s') s') _
  case turn =>
    rintro ⟨y, x⟩ rest b s' ⟨hb', h⟩
    refine wpAny_bind (wpAny_mono h (fun r s2 q2 => ?_) fun _ _ x => x)
    cases r
    · rw [if_neg (by decide)] at q2
      wp_walk
      exact q2
    · rw [if_pos rfl] at q2
      wp_walk
      exact ⟨rfl, q2⟩
  case fin =>
    rintro ⟨b1, b2⟩ s' ⟨hb', h⟩
    simp only at hb'
    subst hb'
    have hR : R (.ok (.ret (.bool true))) s' := h
    wp_walk
    simpa [Builtin.Tuple.tupleCompareSizes, hsz] using hR
  case h =>
    exact ⟨rfl, h0⟩
theorem rc_tupO {l b : Addr} {items items2 : Array Value} {Q : Value → Shared → Prop} {s : Shared} (hsz : items.size = items2.size) (hu : A.units < cLine) (hl : s.heap.IsTuple l items) (hb : s.heap.IsTuple b items2)
    (h : TSteps (model prog w) A E (items.toList.zip items2.toList) (fun c s' => Q (.bool c) s') s) : wpAny (model prog w) A (richCompare .Eq (.ref l) (.ref b)) Q E s := by
  obtain ⟨⟨cls, dd, data, sl⟩, ho, hc, n, hd⟩ := id hl
  obtain ⟨⟨cls2, dd2, data2, sl2⟩, ho2, hc2, n2, hd2⟩ := id hb
  simp only at hc hd hc2 hd2
  subst hc hd hc2 hd2
  refine wpAny_richCompare_same_room (op := .Eq) ⟨_, ho, rfl⟩ ⟨_, ho2, rfl⟩ F.slot_tuple_eq (call_of F.slot_tuple_eq ⟨_, ho, rfl⟩ F.entry_tuple_eq (F.args_tuple_eq_2 _ _) ?_) hu
  refine tuple_eqO (R := wants (fun v s' => v ≠ .notImplemented ∧ Q v s') E) l b items items2 n n2 dd dd2 sl sl2 hsz ho ho2 ?_
  have mono : ∀ {t : List (Value × Value)} {s : Shared}, TSteps (model prog w) A E t (fun c s' => Q (.bool c) s') s → TSteps (model prog w) A (fun e s' => wants (fun v s' => v ≠ .notImplemented ∧ Q v s') E (.error e) s') t (fun c s' => wants (fun v s' => v ≠ .notImplemented ∧ Q v s') E (.ok (.ret (.bool c))) s') s := by
    intro t
    induction t with
    | nil => exact fun q => ⟨(fun x => nomatch x), q⟩
    | cons p t ih =>
      intro s q
      exact wpAny_mono q (fun c s' z => by
        cases c
        · exact ⟨(fun x => nomatch x), z⟩
        · exact ih z) fun _ _ e => e
  exact mono h
end
/-- items compared one by one; hold: what stays -/
def StepsW (r : R2) (hold : Hp → Prop) : List (V × V) → Hp → (Bool → Hp → Prop) → Prop
  | [], H, Q => hold H ∧ Q true H
  | (x, y) :: t, H, Q => hold H ∧ ((∃ p, x = .ref p ∧ y = .ref p ∧ StepsW r hold t H Q) ∨
      (∃ p, x = .ref p ∧ y ≠ .ref p) ∧ r x y H (fun v H' => ∃ c, v = .bl c ∧ if c = true then StepsW r hold t H' Q else hold H' ∧ Q false H'))
def rEqTO (K : PySem.W.Frag) (r : R2) : R2 := fun x y H Q => ∃ a b xs ys, x = .ref a ∧ y = .ref b ∧ SqT K H a xs ∧ SqT K H b ys ∧ xs.length = ys.length ∧ StepsW r (fun _ => True) (xs.zip ys) H fun c H' => Q (.bl c) H'
def rEqLW (b0 : Bool) (r : R2) : R2 := fun x y H Q => ∃ a b xs ys, x = .ref a ∧ y = .ref b ∧ xs.length = ys.length ∧ StepsW r (fun H => H a = some (.lst xs) ∧ H b = some (.lst ys)) (xs.zip ys) H fun c H' => Q (.bl (c == b0)) H'
theorem StepsW.hold {r : R2} {hold : Hp → Prop} {t : List (V × V)} {H : Hp} {Q : Bool → Hp → Prop} (h : StepsW r hold t H Q) : hold H := by
  cases t with
  | nil => exact h.1
  | cons p t => exact h.1
section
variable {X : Cx}
theorem eqBool_same {M : Model} {A : Around} {E : Value → Shared → Prop} {Q : Bool → Shared → Prop} {s : Shared} {p : Addr} (h : Q true s) : wpAny M A (eqBool (.ref p) (.ref p)) Q E s := by
  delta eqBool
  refine wpAny_holding ?_
  refine wpAny_ite_true (by simp) ?_
  exact wpAny_bind (wpAny_rule (wpAny_pure h))
theorem tsteps_of {r : R2} (h : OpR (in1X X) (compareOp .Eq) r) {pins : List (Addr × Obj)} {σ : L2.St} {Q : Bool → Hp → Prop} {xs ys : List V} {us vs : List Value} : ∀ (s : Shared) (H : Hp), Vals xs us → Vals ys vs → Inv X pins σ H s → StepsW r (fun _ => True) (xs.zip ys) H Q →
    TSteps (model X.prog X.w) X.A X.xe (us.zip vs) (fun c s' => ∃ H', Inv X pins σ H' s' ∧ Q c H') s := by
  intro s H r1 r2
  induction r1 generalizing s H ys vs with
  | nil => exact fun I q => ⟨H, I, q.2⟩
  | cons a _ ih =>
    cases r2 with
    | nil => exact fun I q => ⟨H, I, q.2⟩
    | cons b r2 =>
      intro I q
      obtain ⟨_, q⟩ := q
      rcases q with ⟨p, rfl, rfl, q⟩ | ⟨⟨p, rfl, n⟩, q⟩
      · cases (show _ = Value.ref p from a)
        cases (show _ = Value.ref p from b)
        exact eqBool_same (by rw [if_pos rfl]; exact ih s H r2 I q)
      · cases (show _ = Value.ref p from a)
        refine eqBool_ref (ref_beq n b) ?_
        refine wpAny_mono (h pins s σ H (.ref p) _ (.ref p) _ _ (inv_in1 I) rfl b q) ?_ fun _ _ e => e
        rintro t s' ⟨tv, H', I', rt, c, rfl, q'⟩
        cases (show t = Value.bool c from rt)
        refine ⟨c, rfl, ?_⟩
        cases c
        · rw [if_neg (by decide)] at q' ⊢
          exact ⟨H', inv_out1 I', q'.2⟩
        · rw [if_pos rfl] at q' ⊢
          exact ih s' H' r2 (inv_out1 I') q'
theorem op_eqTO {r : R2} (h : OpR (in1X X) (compareOp .Eq) r) (hu : X.A.units < cLine) : OpR X (compareOp .Eq) (rEqTO X.K r) := by
  intro pins s σ H x y v u Q I rx ry q
  obtain ⟨a, b, xs, ys, rfl, rfl, ha, hb, hl, q⟩ := q
  cases (show v = Value.ref a from rx)
  cases (show u = Value.ref b from ry)
  obtain ⟨its, r1, e1, z1⟩ := I.tuple ha
  obtain ⟨its2, r2, e2, z2⟩ := I.tuple hb
  have S := tsteps_of h s H r1 r2 I q
  have mono : ∀ {t : List (Value × Value)} {s : Shared}, TSteps (model X.prog X.w) X.A X.xe t (fun c s' => ∃ H', Inv X pins σ H' s' ∧ Q (.bl c) H') s → TSteps (model X.prog X.w) X.A X.xe t (fun c s' => EP X pins σ Q (.bool c) s') s := by
    intro t
    induction t with
    | nil => rintro s ⟨H', I', q⟩; exact ⟨.bl true, H', I', rfl, q⟩
    | cons p t ih =>
      intro s q
      exact wpAny_mono q (fun c s' z => by
        cases c
        · obtain ⟨H', I', q⟩ := z
          exact ⟨.bl false, H', I', rfl, q⟩
        · exact ih z) fun _ _ e => e
  exact rc_tupO (prog := X.prog) (w := X.w) (A := X.A) (E := X.xe) (Q := EP X pins σ Q) (by rw [List.size_toArray, List.size_toArray, ← r1.length, ← r2.length]; exact hl) hu e1 e2 (mono S)
theorem stepsw_of {r : R2} (h : OpR (in1X X) (compareOp .Eq) r) {pins : List (Addr × Obj)} {σ : L2.St} {a b : Addr} {xs ys : List V} (hl : xs.length = ys.length) {Q : Bool → Hp → Prop} (k : Nat) : ∀ (i : Nat) (s : Shared) (H : Hp), xs.length - i = k → i ≤ xs.length → Inv X pins σ H s → StepsW r (fun H => H a = some (.lst xs) ∧ H b = some (.lst ys)) ((xs.zip ys).drop i) H Q →
    EqSteps (model X.prog X.w) X.A X.xe a b xs.length k i (fun c s' => ∃ H', Inv X pins σ H' s' ∧ Q c H') s := by
  have has : ∀ {s : Shared} {H : Hp}, Inv X pins σ H s → (H a = some (.lst xs) ∧ H b = some (.lst ys)) → HasL s a b xs.length := by
    intro s H I e
    obtain ⟨ia, va, ea⟩ := lst_at (s := s) I.hok e.1
    obtain ⟨ib, vb, eb⟩ := lst_at (s := s) I.hok e.2
    exact ⟨_, _, ea, eb, by rw [List.size_toArray, ← paired_len va], by rw [List.size_toArray, ← paired_len vb, hl]⟩
  induction k with
  | zero =>
    intro i s H hk hi I q
    have hz : (xs.zip ys).drop i = [] := by
      rw [List.drop_eq_nil_iff, List.length_zip]
      omega
    rw [hz] at q
    exact ⟨has I q.1, H, I, q.2⟩
  | succ k ih =>
    intro i s H hk hi I q
    obtain ⟨x, hx⟩ : ∃ x, xs[i]? = some x := ⟨_, List.getElem?_eq_getElem (by omega)⟩
    obtain ⟨y, hy⟩ : ∃ y, ys[i]? = some y := ⟨_, List.getElem?_eq_getElem (by omega)⟩
    have hz : (xs.zip ys).drop i = (x, y) :: (xs.zip ys).drop (i + 1) := by
      have hlen : i < (xs.zip ys).length := by rw [List.length_zip]; omega
      rw [List.drop_eq_getElem_cons hlen]
      congr 1
      rw [List.getElem_zip]
      rw [List.getElem?_eq_some_iff] at hx hy
      obtain ⟨_, h1⟩ := hx
      obtain ⟨_, h2⟩ := hy
      rw [h1, h2]
    rw [hz] at q
    obtain ⟨e, q⟩ := q
    obtain ⟨ia, va, ea⟩ := lst_at (s := s) I.hok e.1
    obtain ⟨ib, vb, eb⟩ := lst_at (s := s) I.hok e.2
    obtain ⟨u, hu, ru⟩ := paired_at va hx
    obtain ⟨v, hv, rv⟩ := paired_at vb hy
    refine ⟨_, _, u, v, ea, eb, by rw [List.size_toArray, ← paired_len va], by rw [List.size_toArray, ← paired_len vb, hl], by simpa using hu, by simpa using hv, ?_⟩
    rcases q with ⟨p, rfl, rfl, q⟩ | ⟨⟨p, rfl, n⟩, q⟩
    · cases (show u = Value.ref p from ru)
      cases (show v = Value.ref p from rv)
      exact eqBool_same (by rw [if_pos rfl]; exact ih (i + 1) s H (by omega) (by omega) I q)
    · cases (show u = Value.ref p from ru)
      refine eqBool_ref (ref_beq n rv) ?_
      refine wpAny_mono (h pins s σ H _ _ _ _ _ (inv_in1 I) ru rv q) ?_ fun _ _ e => e
      rintro t s' ⟨tv, H', I', rt, c, rfl, q'⟩
      cases (show t = Value.bool c from rt)
      refine ⟨c, rfl, ?_⟩
      cases c
      · rw [if_neg (by decide)] at q' ⊢
        exact ⟨has (inv_out1 I') q'.1, H', inv_out1 I', q'.2⟩
      · rw [if_pos rfl] at q' ⊢
        exact ih (i + 1) s' H' (by omega) (by omega) (inv_out1 I') q'
theorem op_eqLWO (b0 : Bool) {r : R2} (h : OpR (in1X X) (compareOp .Eq) r) (hu : X.A.units < cLine) : OpR X (compareOp (if b0 = true then .Eq else .NotEq)) (rEqLW b0 r) := by
  intro pins s σ H x y v u Q I rx ry q
  obtain ⟨a, b, xs, ys, rfl, rfl, hl, q⟩ := q
  cases (show v = Value.ref a from rx)
  cases (show u = Value.ref b from ry)
  refine list_cmpO b0 a b xs.length hu ?_
  refine (stepsw_of h hl xs.length 0 s H (by omega) (by omega) I (by simpa using q)).mono ?_
  rintro c s' ⟨H', I', q'⟩
  exact ⟨.bl (c == b0), H', I', rfl, q'⟩
theorem op_eqLW {r : R2} (h : OpR (in1X X) (compareOp .Eq) r) (hu : X.A.units < cLine) : OpR X (compareOp .Eq) (rEqLW true r) := op_eqLWO true h hu
theorem op_neLW {r : R2} (h : OpR (in1X X) (compareOp .Eq) r) (hu : X.A.units < cLine) : OpR X (compareOp .NotEq) (rEqLW false r) := op_eqLWO false h hu
end
end G

/-! ### own lines (walk_at is the kit's own word with a key: these keys are ours) -/
-- a sequence in a later heap, by what is said of it as a sequence
local macro_rules | `(tactic| walk_at "hq") => `(tactic| first
  | assumption
  | (refine G.SqT.kp (by assumption) ?_; walk_at "hq")
  | (refine G.SqT.md (by assumption) ?_; walk_at "hq")
  | (refine G.SqL.kp (by assumption) ?_; walk_at "hq"))
-- a tracked object in a later heap
local macro_rules | `(tactic| walk_at "hp") => `(tactic| first
  | assumption
  | (refine G.SqT.kp (by assumption) ?_; walk_at "hq")
  | (refine G.SqT.md (by assumption) ?_; walk_at "hq")
  | (refine G.SqL.kp (by assumption) ?_; walk_at "hq")
  | (refine G.TabP.kp (by assumption) ?_; walk_at "hp")
  | (refine G.TabP.md (by assumption) ?_; walk_at "hp")
  | (refine G.Kp.at (by assumption) ?_; walk_at "hp")
  | (refine G.Md.tup (by assumption) ?_; walk_at "hp")
  | (refine G.Md.ins (by assumption) ?_; walk_at "hp")
  | (refine G.Md.frz (by assumption) ?_; walk_at "hp")
  | (refine G.Md.lst (by assumption) ?_ (by first | assumption | (apply Ne.symm; assumption)); walk_at "hp")
  | (refine L2.SqT.of ?_; walk_at "hp")
  | (refine L2.SqL.of ?_; walk_at "hp")
  | (refine G.MD.ins (by assumption) ?_; walk_at "hp")
  | (refine G.MD.tup (by assumption) ?_; walk_at "hp")
  | (refine G.MD.lst (by assumption) ?_; walk_at "hp")
  | (refine G.Md.kp (by assumption) _ _ (by assumption) ?_; walk_at "hp")
  | (refine G.MD.atN (by assumption) (by assumption) ?_ ?_ <;> walk_at "hp"))
-- more rows of "hp": the claim's own
local macro_rules | `(tactic| walk_at "hpx") => `(tactic| fail "hpx")
-- a bound of an int
local macro_rules | `(tactic| walk_at "bd1") => `(tactic| first
  | assumption
  | ((with_reducible apply G.Bd.mul); walk_at "bd1"; walk_at "bd1")
  | ((with_reducible apply G.Bd.add); walk_at "bd1"; walk_at "bd1")
  | ((with_reducible apply G.Bd.sub); walk_at "bd1"; walk_at "bd1")
  | ((with_reducible apply G.Bd.neg); walk_at "bd1")
  | exact G.Bd.lit _)
local macro_rules | `(tactic| walk_at "bd") => `(tactic| ((fail_if_success (with_reducible show G.Bd _ 987654321987654321)); walk_at "bd1"))
local macro_rules | `(tactic| walk_at "bdw") => `(tactic| first | assumption | exact G.Bd.mono (by walk_at "bd") (by first | decide +kernel | omega))
-- a product's room
local macro_rules | `(tactic| walk_at "mu") => `(tactic| first
  | (exact G.mulOk (by walk_at "bd") (by walk_at "bd") (by first | decide +kernel | omega))
  | exact G.mulOkL (by omega)
  | exact G.mulOkR (by omega))
local macro_rules | `(tactic| walk_at "gx") => `(tactic| fail "gx")
-- one step of a reading
local macro_rules | `(tactic| walk_at "g") => `(tactic| first
  | walk_at "gx"
  | ((with_reducible refine G.st_var (v := ?z0) ?h ?_); (case h => rfl))
  | with_reducible refine G.st_c ?_
  | with_reducible refine G.st_op ?_
  | with_reducible refine G.st_un ?_
  | with_reducible refine G.st_seq ?_
  | with_reducible refine G.st_asg ?_
  | ((with_reducible refine G.st_aug (x := ?z0) ?h ?_); (case h => rfl))
  | ((with_reducible refine G.st_gname (σ' := ?z0) ?e ?_); (case e => (simp only [List.set_cons_zero, List.set_cons_succ]; rfl)))
  | with_reducible refine G.st_test ?_
  | with_reducible refine G.st_B ?_
  | with_reducible refine G.st_exbl ?_
  | with_reducible refine G.st_exblP ?_
  | with_reducible refine G.st_iteT ?_
  | with_reducible refine G.st_iteF ?_
  | with_reducible refine G.st_and ?_
  | with_reducible refine G.st_or ?_
  | with_reducible refine G.st_not ?_
  | with_reducible refine G.st_andV ?_
  | with_reducible refine G.st_orV ?_
  | with_reducible refine G.st_notV ?_
  | with_reducible refine G.st_ifE ?_
  | with_reducible refine G.st_ifS ?_
  | with_reducible refine G.st_nil ?_
  | with_reducible refine G.st_cons ?_
  | with_reducible refine G.st_tup ?_
  | with_reducible refine G.st_lst ?_
  | ((with_reducible refine G.st_tupK ?h ?_); (case h => (simp only [List.length_cons, List.length_nil]; omega)); intro _ _ _ _ _)
  | ((with_reducible refine G.st_lstK ?h ?_); (case h => (simp only [List.length_cons, List.length_nil]; omega)); intro _ _ _ _ _)
  | with_reducible refine G.st_call ?_
  | with_reducible refine G.st_sm ?_
  | with_reducible refine G.st_cb ?_
  | with_reducible refine G.st_meth ?_
  | with_reducible refine G.st_methK ?_
  | with_reducible refine G.st_fld ?_
  | with_reducible refine G.st_chain ?_
  | with_reducible refine G.add_ii ?_
  | with_reducible refine G.sub_ii ?_
  | ((with_reducible refine G.mul_ii ?h ?_); (case h => walk_at "mu"))
  | ((with_reducible refine G.div_ii ?h0 (by walk_at "bd") (by first | decide +kernel | omega) ?_); (case h0 => omega))
  | ((with_reducible refine G.mod_ii ?h0 ?_); (case h0 => omega))
  | ((with_reducible refine G.pow_ii (z := ?z0) ?h ?e ?_); (case h => (refine ⟨?_, ?_, ?_⟩ <;> omega)); (case e => ((simp only [Int.reduceToNat, Int.reducePow]); first | done | rfl)))
  | with_reducible refine G.neg_i ?_
  | with_reducible refine G.lt_ii ?_
  | with_reducible refine G.le_ii ?_
  | with_reducible refine G.gt_ii ?_
  | with_reducible refine G.ge_ii ?_
  | with_reducible refine G.eq_ii ?_
  | with_reducible refine G.eq_ss ?_
  | with_reducible refine G.eq_bb ?_
  | with_reducible refine G.ne_ii ?_
  | with_reducible refine G.ne_ss ?_
  | with_reducible refine G.ne_bb ?_
  | ((with_reducible refine G.eq_t2 (i0 := ?z0) (i1 := ?z1) (j0 := ?z2) (j1 := ?z3) ?h1 ?h2 ?_); (case h1 => walk_at "hp"); (case h2 => walk_at "hp"))
  | ((with_reducible refine G.ne_t2 (i0 := ?z0) (i1 := ?z1) (j0 := ?z2) (j1 := ?z3) ?h1 ?h2 ?_); (case h1 => walk_at "hp"); (case h2 => walk_at "hp"))
  | ((with_reducible refine G.in_s2 (s1 := ?z0) (s2 := ?z1) ?h1 ?_); (case h1 => walk_at "hp"))
  | ((with_reducible refine G.add_tt (xs := ?z0) (ys := ?z1) (zs := ?z2) ?h1 ?h2 ?n1 ?n2 ?l ?e ?_); (case h1 => walk_at "hp"); (case h2 => walk_at "hp"); (case n1 => (intro hz; cases hz)); (case n2 => (intro hz; cases hz)); (case l => (simp only [List.length_cons, List.length_nil]; omega)); (case e => (simp only [List.cons_append, List.nil_append]; rfl)); intro _ _ _ _ _)
  | with_reducible refine G.isN_n ?_
  | with_reducible refine G.notN_n ?_
  | with_reducible refine G.abs_i ?_
  | with_reducible refine G.int_i ?_
  | with_reducible refine G.int_b ?_
  | with_reducible refine G.bool_i ?_
  | with_reducible refine G.bool_b ?_
  | ((with_reducible refine G.len_l (xs := ?z0) ?h ?_); (case h => walk_at "hp"))
  | ((with_reducible refine G.len_t (xs := ?z0) ?h ?_); (case h => walk_at "hp"))
  | ((with_reducible refine G.list_l (xs := ?z0) ?h ?_); (case h => walk_at "hp"); intro _ _ _ _ _)
  | ((with_reducible refine G.list_t (xs := ?z0) ?h ?_); (case h => walk_at "hp"); intro _ _ _ _ _)
  | ((with_reducible refine' G.isi_ty ?ty ?h ?_); (case ty => first | exact .base (.int _) | exact .base (.str _) | exact .base (.bl _) | exact .base .non); (case h => first | exact L2.kit_ty (r := true) (by decide +kernel) | exact L2.kit_ty (r := false) (by decide +kernel) | assumption))
  | ((with_reducible refine G.ix_t (xs := ?z0) (v := ?z1) ?h ?e ?_); (case h => walk_at "hp"); (case e => rfl))
  | ((with_reducible refine G.ix_l (xs := ?z0) (v := ?z1) ?h ?e ?_); (case h => walk_at "hp"); (case e => rfl))
  | with_reducible refine G.st_sl ?_
  | with_reducible refine G.st_noPart ?_
  | with_reducible refine G.st_part ?_
  | with_reducible refine G.st_exint ?_
  | with_reducible refine G.st_exintP ?_
  | ((with_reducible refine G.sl_l (xs := ?z0) ?h ?_); (case h => walk_at "hp"); intro _ _ _ _ _)
  | with_reducible refine G.st_next ?_
  | with_reducible refine G.st_brk ?_
  | with_reducible refine G.st_cont ?_
  | with_reducible refine G.st_drop ?_
  | with_reducible refine G.st_ret ?_
  | with_reducible refine G.st_retN ?_
  | with_reducible refine G.st_par ?_
  | with_reducible refine G.st_par3 ?_
  | ((with_reducible refine G.st_par3K (σ' := ?z0) ?e ?_); (case e => (simp only [List.set_cons_zero, List.set_cons_succ]; rfl)))
  | ((with_reducible refine G.st_lamG ?h ?_); (case h => walk_at "hp"); intro _ _)
  | ((with_reducible refine G.st_parK (σ' := ?z0) ?e ?_); (case e => (simp only [List.set_cons_zero, List.set_cons_succ]; rfl)))
  | ((with_reducible refine G.st_gtup (xs := ?z0) ?h ?l ?_); (case h => walk_at "hp"); (case l => rfl))
  | ((with_reducible refine G.st_glst (xs := ?z0) ?h ?l ?_); (case h => walk_at "hp"); (case l => rfl))
  | with_reducible refine G.st_gcons ?_
  | with_reducible refine G.st_gnil ?_
  | with_reducible refine G.st_gsub ?_
  | ((with_reducible refine G.st_setL (xs := ?z0) (m := ?z1) (ys := ?z2) ?h ?l ?e ?_); (case h => walk_at "hp"); (case l => rfl); (case e => (simp only [Int.reduceToNat, List.set_cons_zero, List.set_cons_succ]; rfl)); intro _ _ _)
  | with_reducible refine G.st_setfld ?_
  | with_reducible refine G.st_bm ?_
  | ((with_reducible refine G.bm_list (xs := ?z0) ?h ?_); (case h => walk_at "hp"))
  | ((with_reducible refine G.append_l (xs := ?z0) ?h ?l ?_); (case h => walk_at "hp"); (case l => first | omega | assumption); intro _ _ _))
-- dicts
local macro_rules | `(tactic| walk_at "g") => `(tactic| first
  | ((with_reducible refine G.st_disp ?_); intro _ _ _ _ _)
  | with_reducible refine G.st_pairsN ?_
  | with_reducible refine G.st_pairsC ?_
  | ((with_reducible refine G.st_disp3 ?h ?_); (case h => walk_at "hp"); intro _ _ _)
  | with_reducible refine G.st_dget2 ?_
  | ((with_reducible refine G.st_dgK (kvs := ?z0) ?h ?_); (case h => walk_at "hp"))
  | ((with_reducible refine G.st_dgSs (kvs := ?z0) (v := ?z1) ?h ?e ?_); (case h => walk_at "hp"); (case e => rfl))
  | ((with_reducible refine G.st_dgSn (kvs := ?z0) ?h ?e ?_); (case h => walk_at "hp"); (case e => rfl))
  | ((with_reducible refine G.eq_l2b (i0 := ?z0) (i1 := ?z1) (j0 := ?z2) (j1 := ?z3) ?h1 ?h2 ?_); (case h1 => walk_at "hp"); (case h2 => walk_at "hp")))
-- a text's length
local macro_rules | `(tactic| walk_at "lb1") => `(tactic| first
  | assumption
  | ((with_reducible apply G.LB.app); walk_at "lb1"; walk_at "lb1")
  | exact G.LB.int (by walk_at "bd") (by first | decide +kernel | omega)
  | exact G.LB.lit _)
local macro_rules | `(tactic| walk_at "lb") => `(tactic| ((fail_if_success (with_reducible show G.LB _ ("zqx" : Str))); walk_at "lb1"))
-- texts, comprehensions, one rule or the other
local macro_rules | `(tactic| walk_at "g") => `(tactic| first
  | with_reducible refine G.st_jsC ?_
  | ((with_reducible refine G.st_jsK ?h ?_); (case h => exact G.LB.fits (by walk_at "lb") (by first | decide +kernel | omega)))
  | with_reducible refine G.st_jsN ?_
  | with_reducible refine G.st_fmt ?_
  | with_reducible refine G.fmt_i (by walk_at "bd") (by first | decide +kernel | omega) ?_
  | with_reducible refine G.fmt_s ?_ ?_
  | with_reducible refine G.str_i (by walk_at "bd") (by first | decide +kernel | omega) ?_
  | ((with_reducible refine G.add_ss ?h ?_); (case h => exact G.LB.two (by walk_at "lb") (by walk_at "lb") (by first | decide +kernel | omega)))
  | ((with_reducible refine' G.repr_t2 (i := ?z0) (j := ?z1) ?h ?b1 ?l1 ?b2 ?l2 ?_); (case h => walk_at "hp"); (case b1 => walk_at "bd"); (case b2 => walk_at "bd"); (case l1 => first | decide +kernel | omega); (case l2 => first | decide +kernel | omega))
  | with_reducible refine G.st_lc ?_
  | ((with_reducible refine G.st_app (acc := ?z0) ?h ?l ?_); (case h => walk_at "hp"); (case l => first | assumption | omega); intro _ _ _)
  | ((with_reducible refine G.st_wip ?h ?_); (case h => (simp only [List.map_cons, List.map_nil, L2.wipe, List.set_cons_zero, List.set_cons_succ])))
  | with_reducible refine G.st_lcT ?_
  | with_reducible refine G.st_yes ?_
  | ((with_reducible refine G.or_l ?_); walk_at "g")
  | ((with_reducible refine G.or_r ?_); walk_at "g")
  | ((with_reducible refine G.cor_l ?_); walk_at "g")
  | ((with_reducible refine G.cor_r ?_); walk_at "g")
  | ((with_reducible refine G.uor_l ?_); walk_at "g")
  | ((with_reducible refine G.uor_r ?_); walk_at "g"))
local macro_rules | `(tactic| walk_at "gl") => `(tactic| first
  | with_reducible refine G.st_whK ?_
  | with_reducible refine G.st_mk ?_
  | with_reducible refine G.st_for ?_
  | with_reducible refine G.st_iList ?_
  | ((with_reducible refine G.st_iLK (xs := ?z0) ?h ?_); (case h => walk_at "hp"))
  | with_reducible refine G.st_r1 ?_
  | with_reducible refine G.st_r2 ?_
  | ((with_reducible refine G.st_r1K ?h1 ?h2 ?_); (case h1 => omega); (case h2 => omega))
  | ((with_reducible refine G.st_r2K ?h ?_); (case h => (refine ⟨?_, ?_, ?_, ?_⟩ <;> omega))))
-- what a test says
local macro_rules | `(tactic| walk_at "gif") => `(tactic| ((with_reducible refine G.st_ite ?_ ?_) <;> (intro hc; (try simp only [decide_eq_true_eq, decide_eq_false_iff_not, Bool.not_eq_true', Bool.not_eq_false', Bool.and_eq_true, Bool.or_eq_true, Bool.and_eq_false_iff, Bool.or_eq_false_iff, Bool.not_true, Bool.not_false, bne_iff_ne, beq_iff_eq, ne_eq, not_true_eq_false, not_false_eq_true, Bool.false_eq_true, Bool.true_eq_false, reduceCtorEq] at hc); (try (exfalso; first | assumption | contradiction | omega)))))
local macro_rules | `(tactic| walk_at "start") => `(tactic| ((try dsimp only [L2.cxOf]); (with_reducible refine G.st_start (σ' := ?z0) ?e ?_); (case e => (unfold L2.start; simp only [List.map_cons, List.map_nil, List.length_cons, List.length_nil, Nat.reduceAdd, Nat.reduceSub, List.replicate, List.cons_append, List.nil_append]; rfl))))
-- as far as it goes
local macro_rules | `(tactic| walk_at "go") => `(tactic| repeat' first | walk_at "g" | walk_at "gl")
local macro_rules | `(tactic| walk_at "gob") => `(tactic| repeat' first | walk_at "g" | walk_at "gl" | walk_at "gif")
-- a way that cannot be
local macro_rules | `(tactic| walk_at "no") => `(tactic| first
  | (exfalso; omega)
  | (exfalso; simp_all; done)
  | (simp only [decide_eq_true_eq, decide_eq_false_iff_not, Bool.not_eq_true', Bool.not_eq_false', Bool.not_true, Bool.not_false] at *; exfalso; omega))
-- all is kept, over several steps; an address that was free
local macro_rules | `(tactic| walk_at "kp") => `(tactic| first | assumption | exact G.Kp.refl | ((with_reducible apply G.Kp.trans); assumption; walk_at "kp"))
local macro_rules | `(tactic| walk_at "fr") => `(tactic| first | assumption | (refine G.Kp.back (by assumption) ?_; walk_at "fr") | (refine G.Md.back (by assumption) ?_; walk_at "fr"))
-- one list changes, over several steps
local macro_rules | `(tactic| walk_at "mdf") => `(tactic| first | exact G.mdt_z | ((with_reducible apply G.mdt_k); assumption; walk_at "mdf") | ((with_reducible apply G.mdt_m); assumption; walk_at "mdf"))
local macro_rules | `(tactic| walk_at "mdt") => `(tactic| first | assumption | ((with_reducible apply G.mdt_go); assumption; walk_at "mdf") | ((with_reducible apply G.mdt_go); (apply G.mdt_s; assumption); walk_at "mdf"))
namespace Lw
/-! ### plain law: what lookers.is_around tells of an order of numbers on a piece -/
namespace M92
def sumTo (f : Nat → Int) : Nat → Int
  | 0 => 0
  | n + 1 => sumTo f n + f n
theorem sumTo_congr {f g : Nat → Int} : ∀ {n : Nat}, (∀ i < n, f i = g i) → sumTo f n = sumTo g n
  | 0, _ => rfl
  | n + 1, h => by rw [sumTo, sumTo, sumTo_congr fun i hi => h i (by omega), h n (by omega)]
section
variable {a b c d : Int}
/-- neighbours -/
structure Nb (a b c d : Int) : Prop where
  b0 : 0 < b
  d0 : 0 < d
  det : b * c - a * d = 1
/-- whole turns from one number to the next, at the middle -/
def wh (a b c d x y : Int) : Int := (y - x) * (a + c) / (b + d)
def lf (a b c d x y : Int) : Int := (y - x) * a - wh a b c d x y * b
def rt (a b c d x y : Int) : Int := (y - x) * c - wh a b c d x y * d
/-- two numbers that meet in the piece -/
def Mt (a b c d x y : Int) : Prop := ∃ m t : Int, 1 ≤ m ∧ m ∣ (y - x) ∧ a * m < t * b ∧ t * d < c * m
theorem Mt.symm {x y : Int} (h : Mt a b c d x y) : Mt a b c d y x := by
  obtain ⟨m, t, h1, h2, h3, h4⟩ := h
  exact ⟨m, t, h1, by rw [show x - y = -(y - x) by omega]; exact Int.dvd_neg.mpr h2, h3, h4⟩
def key (a b c d x : Int) : Int := x * (a + c) % (b + d)
theorem mul3 (x y z : Int) : x * y * z = x * z * y := by rw [Int.mul_assoc, Int.mul_comm y z, ← Int.mul_assoc]
/-- partial sums -/
theorem sum_lf (P : Nat → Int) (n : Nat) : sumTo (fun i => lf a b c d (P i) (P (i + 1))) n = (P n - P 0) * a - sumTo (fun i => wh a b c d (P i) (P (i + 1))) n * b := by
  induction n with
  | zero => simp [sumTo]
  | succ n ih =>
    rw [sumTo, sumTo, ih, lf]
    simp only [Int.sub_mul, Int.add_mul]
    omega
theorem sum_rt (P : Nat → Int) (n : Nat) : sumTo (fun i => rt a b c d (P i) (P (i + 1))) n = (P n - P 0) * c - sumTo (fun i => wh a b c d (P i) (P (i + 1))) n * d := by
  induction n with
  | zero => simp [sumTo]
  | succ n ih =>
    rw [sumTo, sumTo, ih, rt]
    simp only [Int.sub_mul, Int.add_mul]
    omega
/-- a step within the piece -/
def Ok (a b c d x y : Int) : Prop := 0 ≤ lf a b c d x y ∧ 0 ≤ rt a b c d x y ∧ lf a b c d x y + rt a b c d x y ≠ 0
theorem lr_sum (x y : Int) : lf a b c d x y + rt a b c d x y = (y - x) * (a + c) - wh a b c d x y * (b + d) := by
  unfold lf rt
  rw [Int.mul_add, Int.mul_add]
  omega
theorem lr_mod (x y : Int) : lf a b c d x y + rt a b c d x y = (y - x) * (a + c) % (b + d) := by
  rw [lr_sum, wh, Int.emod_def, Int.mul_comm (b + d)]
/-- u, v of a fraction in the piece -/
theorem uv {m t D T L R : Int} (n : Nb a b c d) (hL : L = D * a - T * b) (hR : R = D * c - T * d) : (c * m - d * t) * L + (b * t - a * m) * R = D * t - T * m := by
  have det := n.det
  subst hL hR
  have e : (c * m - d * t) * (D * a - T * b) + (b * t - a * m) * (D * c - T * d) = (D * t - T * m) * (b * c - a * d) := by
    grind
  rw [e, det, Int.mul_one]
end
end M92
end Lw

namespace Lw
namespace M92
section
variable {a b c d : Int} {P : Nat → Int} {n : Nat}
def SL (a b c d : Int) (P : Nat → Int) : Nat → Int := sumTo fun i => lf a b c d (P i) (P (i + 1))
def SR (a b c d : Int) (P : Nat → Int) : Nat → Int := sumTo fun i => rt a b c d (P i) (P (i + 1))
def SW (a b c d : Int) (P : Nat → Int) : Nat → Int := sumTo fun i => wh a b c d (P i) (P (i + 1))
theorem SL_eq (h0 : P 0 = 0) (i : Nat) : SL a b c d P i = P i * a - SW a b c d P i * b := by
  have := sum_lf (a := a) (b := b) (c := c) (d := d) P i
  rw [h0, Int.sub_zero] at this
  exact this
theorem SR_eq (h0 : P 0 = 0) (i : Nat) : SR a b c d P i = P i * c - SW a b c d P i * d := by
  have := sum_rt (a := a) (b := b) (c := c) (d := d) P i
  rw [h0, Int.sub_zero] at this
  exact this
/-- all steps are within the piece, and once around -/
def Around (a b c d : Int) (P : Nat → Int) (n : Nat) : Prop := (∀ i < n, Ok a b c d (P i) (P (i + 1))) ∧ SL a b c d P n = b ∧ SR a b c d P n = d
theorem up (h : ∀ i < n, Ok a b c d (P i) (P (i + 1))) : ∀ {i j : Nat}, i ≤ j → j ≤ n → SL a b c d P i ≤ SL a b c d P j ∧ SR a b c d P i ≤ SR a b c d P j ∧ (i < j → SL a b c d P i + SR a b c d P i < SL a b c d P j + SR a b c d P j)
  | i, 0, h1, _ => by
    have : i = 0 := by omega
    subst this
    exact ⟨Int.le_refl _, Int.le_refl _, fun z => by omega⟩
  | i, j + 1, h1, h2 => by
    rcases Nat.lt_or_ge j i with z | z
    · have : i = j + 1 := by omega
      subst this
      exact ⟨Int.le_refl _, Int.le_refl _, fun z => by omega⟩
    · obtain ⟨a1, a2, a3⟩ := up h z (show j ≤ n by omega)
      obtain ⟨o1, o2, o3⟩ := h j (by omega)
      have e1 : SL a b c d P (j + 1) = SL a b c d P j + lf a b c d (P j) (P (j + 1)) := rfl
      have e2 : SR a b c d P (j + 1) = SR a b c d P j + rt a b c d (P j) (P (j + 1)) := rfl
      refine ⟨by omega, by omega, fun _ => by omega⟩
theorem sum_mid (h0 : P 0 = 0) (i : Nat) : SL a b c d P i + SR a b c d P i = P i * (a + c) - SW a b c d P i * (b + d) := by
  rw [SL_eq h0, SR_eq h0, Int.mul_add, Int.mul_add]
  omega
theorem mod_is {x q r w : Int} (h : r = x - w * q) (h0 : 0 ≤ r) (h1 : r < q) : x % q = r := by
  have e : x = r + q * w := by rw [h, Int.mul_comm q]; omega
  rw [e, Int.add_mul_emod_self_left, Int.emod_eq_of_lt h0 h1]
/-- the keys -/
theorem around_key (nb : Nb a b c d) (h0 : P 0 = 0) (h : Around a b c d P n) {i : Nat} (hi : i < n) : key a b c d (P i) = SL a b c d P i + SR a b c d P i := by
  obtain ⟨h1, h2, h3⟩ := h
  have l0 := up h1 (Nat.zero_le i) (Nat.le_of_lt hi)
  have ln := (up h1 (Nat.le_of_lt hi) (Nat.le_refl n)).2.2 hi
  have z1 : SL a b c d P 0 = 0 := rfl
  have z2 : SR a b c d P 0 = 0 := rfl
  exact mod_is (sum_mid h0 i) (by omega) (by omega)
theorem around_up (nb : Nb a b c d) (h0 : P 0 = 0) (h : Around a b c d P n) {i j : Nat} (hij : i < j) (hj : j < n) : key a b c d (P i) < key a b c d (P j) := by
  rw [around_key nb h0 h (by omega), around_key nb h0 h hj]
  exact (up h.1 (Nat.le_of_lt hij) (Nat.le_of_lt hj)).2.2 hij
theorem pinch {m t L R k : Int} (det : b * c - a * d = 1) (m1 : 1 ≤ m) (q1 : a * m < t * b) (q2 : t * d < c * m) (L0 : 0 ≤ L) (R0 : 0 ≤ R) (LR : 0 < L + R) (Lb : 0 ≤ b - L) (Rd : 0 ≤ d - R) (LRb : 0 < (b - L) + (d - R))
    (e : (c * m - d * t) * L + (b * t - a * m) * R = m * k) : False := by
  have u1 : 0 ≤ c * m - d * t - 1 := by rw [Int.mul_comm d t]; omega
  have v1 : 0 ≤ b * t - a * m - 1 := by rw [Int.mul_comm b t]; omega
  have low : L + R ≤ m * k := by
    have h1 := Int.mul_nonneg u1 L0
    have h2 := Int.mul_nonneg v1 R0
    rw [Int.sub_mul, Int.one_mul] at h1 h2
    omega
  have tot : (c * m - d * t) * (b - L) + (b * t - a * m) * (d - R) = m - m * k := by
    have e2 : (c * m - d * t) * (b - L) + (b * t - a * m) * (d - R) = m * (b * c - a * d) - ((c * m - d * t) * L + (b * t - a * m) * R) := by grind
    rw [e2, det, Int.mul_one, e]
  have high : (b - L) + (d - R) ≤ m - m * k := by
    have h1 := Int.mul_nonneg u1 Lb
    have h2 := Int.mul_nonneg v1 Rd
    rw [Int.sub_mul, Int.one_mul] at h1 h2
    omega
  have k0 : 0 < k := Int.pos_of_mul_pos_right (a := m) (by omega) (by omega)
  have : m * 1 ≤ m * k := Int.mul_le_mul_of_nonneg_left (by omega) (by omega)
  omega
theorem around_no (nb : Nb a b c d) (h0 : P 0 = 0) (h : Around a b c d P n) {i j : Nat} (hij : i < j) (hj : j < n) : ¬ Mt a b c d (P i) (P j) := by
  rintro ⟨m, t, m1, ⟨k, hk⟩, q1, q2⟩
  obtain ⟨h1, h2, h3⟩ := h
  have u1 := up h1 (Nat.zero_le i) (by omega)
  have u2 := up h1 (Nat.le_of_lt hij) (Nat.le_of_lt hj)
  have u3 := up h1 (Nat.le_of_lt hj) (Nat.le_refl n)
  have z1 : SL a b c d P 0 = 0 := rfl
  have z2 : SR a b c d P 0 = 0 := rfl
  have s := u2.2.2 hij
  have s3 := u3.2.2 hj
  have eL : SL a b c d P j - SL a b c d P i = (P j - P i) * a - (SW a b c d P j - SW a b c d P i) * b := by
    rw [SL_eq h0, SL_eq h0, Int.sub_mul, Int.sub_mul]; omega
  have eR : SR a b c d P j - SR a b c d P i = (P j - P i) * c - (SW a b c d P j - SW a b c d P i) * d := by
    rw [SR_eq h0, SR_eq h0, Int.sub_mul, Int.sub_mul]; omega
  have e := uv (m := m) (t := t) nb eL eR
  obtain ⟨L, eqL⟩ : ∃ L, L = SL a b c d P j - SL a b c d P i := ⟨_, rfl⟩
  obtain ⟨R, eqR⟩ : ∃ R, R = SR a b c d P j - SR a b c d P i := ⟨_, rfl⟩
  rw [← eqL, ← eqR, hk] at e
  have L0 : 0 ≤ L := by omega
  have R0 : 0 ≤ R := by omega
  have LR : 0 < L + R := by omega
  have Lb : 0 ≤ b - L := by omega
  have Rd : 0 ≤ d - R := by omega
  have LRb : 0 < (b - L) + (d - R) := by omega
  exact pinch nb.det m1 q1 q2 L0 R0 LR Lb Rd LRb (k := k * t - (SW a b c d P j - SW a b c d P i)) (by rw [e, Int.mul_sub, Int.mul_assoc, Int.mul_comm m (SW a b c d P j - SW a b c d P i)])
end
end M92
end Lw

namespace Lw
namespace M92
section
variable {a b c d : Int} {P : Nat → Int} {n : Nat}
theorem no_cross {m w : Int} (nb : Nb a b c d) (m0 : 0 < m) (h1 : w * b < a * m) (h2 : c * m < w * d) : False := by
  have b0 := nb.b0
  have d0 := nb.d0
  have g1 := Int.mul_lt_mul_of_pos_right h1 d0
  have g2 := Int.mul_lt_mul_of_pos_right h2 b0
  have e : c * m * b - a * m * d = m * (b * c - a * d) := by grind
  have e2 : w * d * b = w * b * d := by grind
  rw [nb.det, Int.mul_one] at e
  omega
theorem ok_step {x y : Int} (nb : Nb a b c d) (nm : ¬ Mt a b c d x y) (nz : (y - x) * (a + c) % (b + d) ≠ 0) : Ok a b c d x y := by
  have b0 := nb.b0
  have d0 := nb.d0
  have s := lr_mod (a := a) (b := b) (c := c) (d := d) x y
  have s0 : 0 ≤ (y - x) * (a + c) % (b + d) := Int.emod_nonneg _ (by omega)
  have sp : 0 < lf a b c d x y + rt a b c d x y := by omega
  obtain ⟨w, hw⟩ : ∃ w, w = wh a b c d x y := ⟨_, rfl⟩
  obtain ⟨e, he⟩ : ∃ e, e = y - x := ⟨_, rfl⟩
  have hl : lf a b c d x y = e * a - w * b := by rw [hw, he]; rfl
  have hr : rt a b c d x y = e * c - w * d := by rw [hw, he]; rfl
  have hwe : e = 0 → w = 0 := fun z => by rw [hw, wh, ← he, z, Int.zero_mul, Int.zero_ediv]
  refine ⟨?_, ?_, by omega⟩
  · refine Int.not_lt.mp fun z => ?_
    have r0 : 0 < rt a b c d x y := by omega
    rcases Int.lt_trichotomy e 0 with g | g | g
    · exact no_cross (m := -e) (w := -w) nb (by omega) (by rw [Int.neg_mul, Int.mul_neg, Int.mul_comm a e]; omega) (by rw [Int.neg_mul, Int.mul_neg, Int.mul_comm c e]; omega)
    · rw [hl, g, hwe g] at z
      simp at z
    · exact nm ⟨e, w, by omega, by rw [he]; exact Int.dvd_refl _, by rw [Int.mul_comm a e]; omega, by rw [Int.mul_comm c e]; omega⟩
  · refine Int.not_lt.mp fun z => ?_
    have r0 : 0 < lf a b c d x y := by omega
    rcases Int.lt_trichotomy e 0 with g | g | g
    · exact nm ⟨-e, -w, by omega, by rw [he]; exact Int.neg_dvd.mpr (Int.dvd_refl _), by rw [Int.neg_mul, Int.mul_neg, Int.mul_comm a e]; omega, by rw [Int.neg_mul, Int.mul_neg, Int.mul_comm c e]; omega⟩
    · rw [hr, g, hwe g] at z
      simp at z
    · exact no_cross (m := e) (w := w) nb (by omega) (by rw [Int.mul_comm a e]; omega) (by rw [Int.mul_comm c e]; omega)
/-- how far on, at the middle -/
theorem diff_mod {x y q : Int} (q0 : 0 < q) (h : x % q < y % q) : (y - x) % q = y % q - x % q := by
  rw [Int.sub_emod]
  have h1 := Int.emod_nonneg x (show q ≠ 0 by omega)
  have h2 := Int.emod_lt_of_pos y q0
  exact Int.emod_eq_of_lt (by omega) (by omega)
theorem neg_mod' {x q : Int} (q0 : 0 < q) (h : 0 < x % q) : (0 - x) % q = q - x % q := by
  have h2 := Int.emod_lt_of_pos x q0
  have e : 0 - x = (q - x % q) + q * (-(x / q) - 1) := by
    have := Int.emod_add_mul_ediv x q
    rw [Int.mul_sub, Int.mul_neg, Int.mul_one]
    omega
  rw [e, Int.add_mul_emod_self_left, Int.emod_eq_of_lt (by omega) (by omega)]
theorem step_mod {x y : Int} (nb : Nb a b c d) (h : key a b c d x < key a b c d y) : (y - x) * (a + c) % (b + d) = key a b c d y - key a b c d x := by
  rw [Int.sub_mul]
  exact diff_mod (by have := nb.b0; have := nb.d0; omega) h
theorem keys_around (nb : Nb a b c d) (n2 : 2 ≤ n) (h0 : P 0 = 0) (hn : P n = 0) (asc : ∀ i, i + 1 < n → key a b c d (P i) < key a b c d (P (i + 1))) (nm : ∀ i < n, ¬ Mt a b c d (P i) (P (i + 1))) : Around a b c d P n := by
  have b0 := nb.b0
  have d0 := nb.d0
  have k0 : key a b c d (P 0) = 0 := by rw [h0, key, Int.zero_mul, Int.zero_emod]
  have pos : ∀ i, 1 ≤ i → i < n → 0 < key a b c d (P i) := by
    intro i
    induction i with
    | zero => intro h; omega
    | succ i ih =>
      intro _ h2
      have := asc i h2
      rcases Nat.eq_zero_or_pos i with z | z
      · subst z
        omega
      · have := ih z (by omega)
        omega
  have last : ∀ i, i + 1 = n → (P (i + 1) - P i) * (a + c) % (b + d) = (b + d) - key a b c d (P i) := fun i hi => by
    rw [hi, hn, show (0 - P i) * (a + c) = 0 - P i * (a + c) by rw [Int.sub_mul, Int.zero_mul]]
    exact neg_mod' (by omega) (pos i (by omega) (by omega))
  have kl : ∀ i, key a b c d (P i) < b + d := fun i => Int.emod_lt_of_pos _ (by omega)
  have oks : ∀ i < n, Ok a b c d (P i) (P (i + 1)) := fun i hi => by
    refine ok_step nb (nm i hi) ?_
    rcases Nat.lt_or_ge (i + 1) n with z | z
    · rw [step_mod nb (asc i z)]
      have := asc i z
      omega
    · rw [last i (by omega)]
      have := kl i
      omega
  have mid : ∀ i, i < n → SL a b c d P i + SR a b c d P i = key a b c d (P i) := by
    intro i
    induction i with
    | zero => intro _; rw [k0]; rfl
    | succ i ih =>
      intro h
      have e1 : SL a b c d P (i + 1) = SL a b c d P i + lf a b c d (P i) (P (i + 1)) := rfl
      have e2 : SR a b c d P (i + 1) = SR a b c d P i + rt a b c d (P i) (P (i + 1)) := rfl
      have e3 := lr_mod (a := a) (b := b) (c := c) (d := d) (P i) (P (i + 1))
      rw [step_mod nb (asc i h)] at e3
      have := ih (by omega)
      omega
  obtain ⟨i, rfl⟩ : ∃ i, n = i + 1 := ⟨n - 1, by omega⟩
  have tot : SL a b c d P (i + 1) + SR a b c d P (i + 1) = b + d := by
    have e1 : SL a b c d P (i + 1) = SL a b c d P i + lf a b c d (P i) (P (i + 1)) := rfl
    have e2 : SR a b c d P (i + 1) = SR a b c d P i + rt a b c d (P i) (P (i + 1)) := rfl
    have e3 := lr_mod (a := a) (b := b) (c := c) (d := d) (P i) (P (i + 1))
    rw [last i rfl] at e3
    have := mid i (by omega)
    omega
  have sw : SW a b c d P (i + 1) = -1 := by
    have := sum_mid (a := a) (b := b) (c := c) (d := d) h0 (i + 1)
    rw [tot, hn, Int.zero_mul, Int.zero_sub] at this
    have e : (SW a b c d P (i + 1) + 1) * (b + d) = 0 := by rw [Int.add_mul, Int.one_mul]; omega
    rcases Int.mul_eq_zero.mp e with z | z <;> omega
  refine ⟨oks, ?_, ?_⟩
  · rw [SL_eq h0, hn, sw]
    omega
  · rw [SR_eq h0, hn, sw]
    omega
end
end M92
end Lw

namespace Lw
namespace M92
section
variable {a b c d : Int} {os ws : List Int}
/-- the number at a place, around -/
def At (os : List Int) (i : Nat) : Int := os.getD (i % os.length) 0
/-- what the law looks for -/
def Meets (a b c d : Int) (ws : List Int) : Prop := ∃ m : Int, 1 ≤ m ∧ m ≤ 96 ∧ (a * m / b + 1) * d < c * m ∧ ∃ x ∈ ws, ∃ y ∈ ws, x < y ∧ (y - x) % m = 0
theorem meets_iff (nb : Nb a b c d) (bd : ∀ x ∈ ws, -48 ≤ x ∧ x ≤ 48) : Meets a b c d ws ↔ ∃ x ∈ ws, ∃ y ∈ ws, x < y ∧ Mt a b c d x y := by
  have b0 := nb.b0
  have d0 := nb.d0
  constructor
  · rintro ⟨m, m1, _, h, x, hx, y, hy, lt, e⟩
    refine ⟨x, hx, y, hy, lt, m, a * m / b + 1, m1, Int.dvd_of_emod_eq_zero e, ?_, h⟩
    have h1 := Int.emod_add_mul_ediv (a * m) b
    have h2 := Int.emod_lt_of_pos (a * m) b0
    rw [Int.add_mul, Int.one_mul, Int.mul_comm (a * m / b) b]
    omega
  · rintro ⟨x, hx, y, hy, lt, m, t, m1, dv, h1, h2⟩
    have hm : m ≤ y - x := Int.le_of_dvd (by omega) dv
    have := bd x hx
    have := bd y hy
    refine ⟨m, m1, by omega, ?_, x, hx, y, hy, lt, Int.emod_eq_zero_of_dvd dv⟩
    have g : a * m / b < t := (Int.ediv_lt_iff_lt_mul b0).mpr h1
    have g2 : (a * m / b + 1) * d ≤ t * d := Int.mul_le_mul_of_nonneg_right (by omega) (by omega)
    omega
theorem at_lt {i : Nat} (h : i < os.length) : At os i = os[i] := by
  unfold At
  rw [Nat.mod_eq_of_lt h, List.getD_eq_getElem?_getD, List.getElem?_eq_getElem h, Option.getD_some]
theorem at_n : At os os.length = At os 0 := by
  unfold At
  rw [Nat.mod_self, Nat.zero_mod]
theorem nd_inj (h : os.Nodup) {i j : Nat} {hi : i < os.length} {hj : j < os.length} (e : os[i] = os[j]) : i = j := by
  have pw := List.pairwise_iff_getElem.mp h
  rcases Nat.lt_trichotomy i j with z | z | z
  · exact absurd e (pw i j hi hj z)
  · exact z
  · exact absurd e.symm (pw j i hj hi z)
/-- no pair meets, whichever way around -/
theorem no_pair (h : ¬ ∃ x ∈ ws, ∃ y ∈ ws, x < y ∧ Mt a b c d x y) {x y : Int} (hx : x ∈ ws) (hy : y ∈ ws) (ne : x ≠ y) : ¬ Mt a b c d x y := fun m => by
  rcases Int.lt_or_gt_of_ne ne with z | z
  · exact h ⟨x, hx, y, hy, z, m⟩
  · exact h ⟨y, hy, x, hx, z, m.symm⟩
/-- unlike numbers that do not meet have unlike keys -/
theorem key_ne (nb : Nb a b c d) {x y : Int} (nm : ¬ Mt a b c d x y) (ne : x ≠ y) : key a b c d x ≠ key a b c d y := fun e => by
  have b0 := nb.b0
  have d0 := nb.d0
  have det := nb.det
  refine nm ⟨b + d, a + c, by omega, ?_, ?_, ?_⟩
  · have h1 : (b + d) ∣ (y - x) * (a + c) := Int.dvd_of_emod_eq_zero (by
      rw [Int.sub_mul]
      have : y * (a + c) % (b + d) = x * (a + c) % (b + d) := e.symm
      exact Int.emod_eq_emod_iff_emod_sub_eq_zero.mp this)
    have h2 : (y - x) = (y - x) * (a + c) * b - (y - x) * a * (b + d) := by
      have : (y - x) * (a + c) * b - (y - x) * a * (b + d) = (y - x) * (b * c - a * d) := by grind
      rw [this, det, Int.mul_one]
    rw [h2]
    exact Int.dvd_sub (Int.dvd_mul_of_dvd_left h1) (Int.dvd_mul_left ..)
  · rw [Int.mul_add, Int.add_mul, Int.mul_comm c b]; omega
  · rw [Int.mul_add, Int.add_mul, Int.mul_comm c b]; omega
theorem pw_at {R : Int → Int → Prop} (h : ∀ i j, i < j → j < os.length → R (At os i) (At os j)) : os.Pairwise R := by
  rw [List.pairwise_iff_getElem]
  intro i j hi hj hij
  have := h i j hij hj
  rwa [at_lt hi, at_lt hj] at this
/-- the order is once around, within the piece, just if no two meet and the keys ascend -/
theorem around_iff (nb : Nb a b c d) (bd : ∀ x ∈ ws, -48 ≤ x ∧ x ≤ 48) (pm : os.Perm ws) (nd : ws.Nodup) (h0 : At os 0 = 0) (n2 : 2 ≤ os.length) :
    Around a b c d (At os) os.length ↔ ¬ Meets a b c d ws ∧ os.Pairwise fun x y => key a b c d x < key a b c d y := by
  have ndo : os.Nodup := pm.nodup_iff.mpr nd
  rw [meets_iff nb bd]
  constructor
  · intro h
    refine ⟨?_, pw_at fun i j hij hj => around_up nb h0 h hij hj⟩
    rintro ⟨x, hx, y, hy, lt, m⟩
    obtain ⟨i, hi, ei⟩ := List.mem_iff_getElem.mp (pm.mem_iff.mpr hx)
    obtain ⟨j, hj, ej⟩ := List.mem_iff_getElem.mp (pm.mem_iff.mpr hy)
    rcases Nat.lt_trichotomy i j with z | z | z
    · refine around_no nb h0 h z hj ?_
      rw [at_lt hi, at_lt hj, ei, ej]
      exact m
    · subst z
      omega
    · refine around_no nb h0 h z hi ?_
      rw [at_lt hi, at_lt hj, ei, ej]
      exact m.symm
  · rintro ⟨nm, pw⟩
    refine keys_around nb n2 h0 (at_n.trans h0) (fun i hi => ?_) fun i hi => ?_
    · rw [at_lt (by omega), at_lt hi]
      exact (List.pairwise_iff_getElem.mp pw) i (i + 1) (by omega) hi (by omega)
    · have mi : At os i ∈ ws := by rw [at_lt hi]; exact pm.mem_iff.mp (List.getElem_mem hi)
      rcases Nat.lt_or_ge (i + 1) os.length with z | z
      · have mj : At os (i + 1) ∈ ws := by rw [at_lt z]; exact pm.mem_iff.mp (List.getElem_mem z)
        refine no_pair nm mi mj fun e => ?_
        rw [at_lt hi, at_lt z] at e
        have := (nd_inj ndo e)
        omega
      · have e : i + 1 = os.length := by omega
        rw [e, at_n]
        have mj : At os 0 ∈ ws := by rw [at_lt (by omega)]; exact pm.mem_iff.mp (List.getElem_mem _)
        refine no_pair nm mi mj fun e2 => ?_
        rw [at_lt hi, at_lt (by omega)] at e2
        have := (nd_inj ndo e2)
        omega
/-- the one order whose keys ascend -/
theorem order_uniq : ∀ {xs ys : List Int}, xs.Perm ys → xs.Pairwise (fun x y => key a b c d x < key a b c d y) → ys.Pairwise (fun x y => key a b c d x < key a b c d y) → xs = ys
  | [], ys, pm, _, _ => (List.nil_perm.mp pm).symm
  | x :: r, [], pm, _, _ => absurd (List.perm_nil.mp pm) (by simp)
  | x :: r, y :: t, pm, hx, hy => by
    rw [List.pairwise_cons] at hx hy
    have e : x = y := by
      rcases List.mem_cons.mp (pm.mem_iff.mp (List.mem_cons_self ..)) with e | m
      · exact e
      rcases List.mem_cons.mp (pm.mem_iff.mpr (List.mem_cons_self ..)) with e | m2
      · exact e.symm
      have := hy.1 x m
      have := hx.1 y m2
      omega
    subst e
    exact congrArg (x :: ·) (order_uniq (List.Perm.cons_inv pm) hx.2 hy.2)
end
end M92
end Lw

namespace Lw
/-! ### plain laws: the simplest fraction between two -/
namespace M10
theorem spl (x b : Int) : x = b * (x / b) + x % b := by
  have := Int.emod_def x b
  omega
/-- p/q lies strictly between a/b and c/d -/
def Bet (a b c d p q : Int) : Prop := 0 < q ∧ a * q < p * b ∧ p * d < c * q
/-- the simplest one -/
def Simple (a b c d p q : Int) : Prop := Bet a b c d p q ∧ ∀ p' q', Bet a b c d p' q' → p ≤ p' ∧ q ≤ q'
/-- what the loop keeps -/
def Ok (a b c d : Int) : Prop := 0 ≤ a ∧ 0 < b ∧ 0 < c ∧ 0 ≤ d ∧ a * d < c * b
theorem simple_end {a b c d : Int} (h : Ok a b c d) (z : ¬ (a / b + 1) * d ≥ c) : Simple a b c d (a / b + 1) 1 := by
  obtain ⟨a0, b0, c0, d0, ab⟩ := h
  have s := spl a b
  have r0 := Int.emod_nonneg a (show b ≠ 0 by omega)
  have r1 := Int.emod_lt_of_pos a b0
  have e : (a / b + 1) * b = b * (a / b) + b := by rw [Int.add_mul, Int.one_mul, Int.mul_comm]
  refine ⟨⟨by omega, by rw [Int.mul_one]; omega, by omega⟩, fun p' q' ⟨q0, h1, h2⟩ => ⟨?_, by omega⟩⟩
  -- p' / q' > a / b >= floor
  rcases Int.lt_or_le p' (a / b + 1) with y | y
  · exfalso
    have w0 : 0 ≤ a / b := Int.ediv_nonneg a0 (by omega)
    have u1 : p' * b ≤ (a / b) * b := Int.mul_le_mul_of_nonneg_right (by omega) (by omega)
    have u2 : a * 1 ≤ a * q' := Int.mul_le_mul_of_nonneg_left (by omega) a0
    have u3 : (a / b) * b = b * (a / b) := Int.mul_comm ..
    omega
  · exact y
theorem turn_ok {a b c d : Int} (h : Ok a b c d) (z : (a / b + 1) * d ≥ c) : Ok d (c - a / b * d) b (a - a / b * b) ∧ c - a / b * d ≤ d ∧ a - a / b * b < b ∧ 0 < d := by
  obtain ⟨a0, b0, c0, d0, ab⟩ := h
  have s := spl a b
  have r0 := Int.emod_nonneg a (show b ≠ 0 by omega)
  have r1 := Int.emod_lt_of_pos a b0
  have u3 : (a / b) * b = b * (a / b) := Int.mul_comm ..
  have w0 : 0 ≤ a / b := Int.ediv_nonneg a0 (by omega)
  have e : (a / b + 1) * d = a / b * d + d := by rw [Int.add_mul, Int.one_mul]
  have dp : 0 < d := by
    rcases Int.lt_or_eq_of_le d0 with y | y
    · exact y
    · rw [← y, Int.mul_zero] at z
      omega
  have cp : a / b * d < c := by
    have v1 : (a / b * b) * d ≤ a * d := Int.mul_le_mul_of_nonneg_right (by omega) d0
    have v2 : (a / b * b) * d = (a / b * d) * b := by rw [Int.mul_right_comm]
    have v3 : (a / b * d) * b < c * b := by omega
    exact Int.lt_of_mul_lt_mul_right v3 (by omega)
  refine ⟨⟨d0, by omega, b0, by omega, ?_⟩, by omega, by omega, dp⟩
  have w1 : d * (a - a / b * b) = a * d - a / b * b * d := by rw [Int.mul_sub, Int.mul_comm d a, Int.mul_comm d]
  have w2 : b * (c - a / b * d) = c * b - a / b * b * d := by
    rw [Int.mul_sub, Int.mul_comm b c, Int.mul_left_comm, ← Int.mul_assoc]
  omega
theorem simple_turn {a b c d p q : Int} (h : Ok a b c d) (z : (a / b + 1) * d ≥ c) (s : Simple d (c - a / b * d) b (a - a / b * b) p q) : Simple a b c d (a / b * p + q) p := by
  obtain ⟨⟨_, y0, _, _, _⟩, y1, y2, y3⟩ := turn_ok h z
  obtain ⟨a0, b0, c0, d0, ab⟩ := h
  have w0 : 0 ≤ a / b := Int.ediv_nonneg a0 (by omega)
  generalize hw : a / b = w at *
  have lo : w * b ≤ a := by
    have := spl a b
    have r0 := Int.emod_nonneg a (show b ≠ 0 by omega)
    rw [hw] at this
    rw [Int.mul_comm]
    omega
  obtain ⟨⟨q0, h1, h2⟩, hmin⟩ := s
  -- h1 : d * q < p * (c - w d), h2 : p * (a - w b) < b * q
  rw [Int.mul_sub] at h1 h2
  have e1 : p * (w * d) = w * p * d := by rw [Int.mul_left_comm, Int.mul_assoc]
  have e2 : p * (w * b) = w * p * b := by rw [Int.mul_left_comm, Int.mul_assoc]
  have pp : 0 < p := by
    rcases Int.lt_or_le 0 p with x | x
    · exact x
    · exfalso
      have v1 : p * (c - w * d) ≤ 0 := Int.mul_nonpos_of_nonpos_of_nonneg x (show 0 ≤ c - w * d by omega)
      have v2 : 0 < d * q := Int.mul_pos y3 q0
      have v3 : p * (c - w * d) = p * c - p * (w * d) := Int.mul_sub ..
      omega
  refine ⟨⟨pp, ?_, ?_⟩, fun p' q' ⟨q0', g1, g2⟩ => ?_⟩
  · rw [Int.add_mul, Int.mul_comm a p, Int.mul_comm q b]
    omega
  · rw [Int.add_mul, Int.mul_comm c p, Int.mul_comm q d]
    omega
  · have k0 : 0 < p' - w * q' := by
      have v1 : w * b * q' ≤ a * q' := Int.mul_le_mul_of_nonneg_right lo (by omega)
      have v2 : (w * q') * b < p' * b := by
        rw [Int.mul_right_comm]
        omega
      have := Int.lt_of_mul_lt_mul_right v2 (show 0 ≤ b by omega)
      omega
    obtain ⟨m1, m2⟩ := hmin q' (p' - w * q') ⟨k0, by
      rw [Int.mul_sub, Int.mul_sub, Int.mul_comm d p', Int.mul_comm q' c, Int.mul_left_comm d, Int.mul_left_comm q', Int.mul_comm d q']
      omega, by
      rw [Int.mul_sub, Int.mul_sub, Int.mul_comm q' a, Int.mul_comm b p', Int.mul_left_comm q', Int.mul_left_comm b, Int.mul_comm q' b]
      omega⟩
    refine ⟨?_, m1⟩
    have v3 : w * p ≤ w * q' := Int.mul_le_mul_of_nonneg_left m1 w0
    omega
theorem Simple.uniq {a b c d p q p' q' : Int} (h : Simple a b c d p q) (k : Simple a b c d p' q') : p = p' ∧ q = q' := by
  have := h.2 _ _ k.1
  have := k.2 _ _ h.1
  omega
theorem simple_cop {a b c d p q : Int} (h : Simple a b c d p q) (hp : 0 < p) : Int.gcd p q = 1 := by
  obtain ⟨⟨q0, h1, h2⟩, hm⟩ := h
  have g0 : 0 < ((Int.gcd p q : Nat) : Int) := by
    have : Int.gcd p q ≠ 0 := fun z => by
      rw [Int.gcd_eq_zero_iff] at z
      omega
    omega
  obtain ⟨p', hp'⟩ := Int.gcd_dvd_left p q
  obtain ⟨q', hq'⟩ := Int.gcd_dvd_right p q
  generalize hg : ((Int.gcd p q : Nat) : Int) = g at *
  have qp : 0 < q' := by
    rcases Int.lt_or_le 0 q' with x | x
    · exact x
    · have := Int.mul_nonpos_of_nonneg_of_nonpos (show 0 ≤ g by omega) x
      omega
  have b1 : Bet a b c d p' q' := by
    refine ⟨qp, ?_, ?_⟩
    · have : g * (a * q') < g * (p' * b) := by
        have e1 : g * (a * q') = a * q := by rw [Int.mul_left_comm, ← hq']
        have e2 : g * (p' * b) = p * b := by rw [← Int.mul_assoc, ← hp']
        omega
      exact Int.lt_of_mul_lt_mul_left this (by omega)
    · have : g * (p' * d) < g * (c * q') := by
        have e1 : g * (c * q') = c * q := by rw [Int.mul_left_comm, ← hq']
        have e2 : g * (p' * d) = p * d := by rw [← Int.mul_assoc, ← hp']
        omega
      exact Int.lt_of_mul_lt_mul_left this (by omega)
  have := (hm _ _ b1).2
  rcases Int.lt_or_le 1 g with x | x
  · exfalso
    have : 2 * q' ≤ g * q' := Int.mul_le_mul_of_nonneg_right (by omega) (by omega)
    omega
  · omega
end M10
end Lw

namespace Lw
namespace M10
theorem simple_ex : ∀ (n : Nat) (a b c d : Int), Ok a b c d → (b + d).toNat ≤ n → ∃ p q, Simple a b c d p q := by
  intro n
  induction n with
  | zero =>
    intro a b c d h hn
    have := h.2.1
    have := h.2.2.2.1
    omega
  | succ n ih =>
    intro a b c d h hn
    by_cases z : (a / b + 1) * d ≥ c
    · obtain ⟨o, y1, y2, y3⟩ := turn_ok h z
      have := o.2.1
      have := o.2.2.2.1
      obtain ⟨p, q, hs⟩ := ih _ _ _ _ o (by omega)
      exact ⟨_, _, simple_turn h z hs⟩
    · exact ⟨_, _, simple_end h z⟩
/-- the search by bottoms -/
theorem least_not {a b c d p q n : Int} (hb : 0 < b) (h : Simple a b c d p q) (n0 : 0 < n) (nq : n < q) : ¬ (a * n / b + 1) * d < c * n := fun z => by
  have s := spl (a * n) b
  have r1 := Int.emod_lt_of_pos (a * n) hb
  have e : (a * n / b + 1) * b = b * (a * n / b) + b := by rw [Int.add_mul, Int.one_mul, Int.mul_comm]
  have := (h.2 (a * n / b + 1) n ⟨n0, by omega, z⟩).2
  omega
theorem least_now {a b c d p q : Int} (hb : 0 < b) (hd : 0 ≤ d) (h : Simple a b c d p q) : a * q / b + 1 = p ∧ (a * q / b + 1) * d < c * q := by
  obtain ⟨⟨q0, h1, h2⟩, hm⟩ := id h
  have s := spl (a * q) b
  have r0 := Int.emod_nonneg (a * q) (show b ≠ 0 by omega)
  have r1 := Int.emod_lt_of_pos (a * q) hb
  have e : (a * q / b + 1) * b = b * (a * q / b) + b := by rw [Int.add_mul, Int.one_mul, Int.mul_comm]
  have le : a * q / b + 1 ≤ p := by
    have v : (a * q / b) * b < p * b := by
      rw [Int.mul_comm]
      omega
    have := Int.lt_of_mul_lt_mul_right v (show 0 ≤ b by omega)
    omega
  have v2 : (a * q / b + 1) * d ≤ p * d := Int.mul_le_mul_of_nonneg_right le hd
  have := (hm (a * q / b + 1) q ⟨q0, by omega, by omega⟩).1
  have e2 : a * q / b + 1 = p := by omega
  exact ⟨e2, by rw [e2]; exact h2⟩
/-- the top is the only one with the least bottom -/
theorem top_one {a b c d p p' q : Int} (a0 : 0 ≤ a) (cd : c ≤ d) (d0 : 0 < d) (hp : 0 < p) (h : Bet a b c d p q) (k : Bet a b c d p' q) (lt : p < p') (hm : ∀ p'' q'', Bet a b c d p'' q'' → q ≤ q'') : False := by
  obtain ⟨q0, h1, h2⟩ := h
  obtain ⟨_, k1, k2⟩ := k
  have v1 : (p + 1) * d ≤ p' * d := Int.mul_le_mul_of_nonneg_right (by omega) (by omega)
  rw [Int.add_mul, Int.one_mul] at v1
  have v2 : c * (q - 1) = c * q - c := by rw [Int.mul_sub, Int.mul_one]
  have v3 : a * (q - 1) = a * q - a := by rw [Int.mul_sub, Int.mul_one]
  rcases Int.lt_or_le 1 q with z | z
  · have := hm p (q - 1) ⟨by omega, by omega, by omega⟩
    omega
  · have e : q = 1 := by omega
    subst e
    have v4 : 1 * d ≤ p * d := Int.mul_le_mul_of_nonneg_right (by omega) (by omega)
    omega
theorem simple_mirror {a b c d p q : Int} (a0 : 0 ≤ a) (b0 : 0 < b) (d0 : 0 < d) (ab : a ≤ b) (cd : c ≤ d) (lt : a * d < c * b) (h : Simple a b c d p q) : Simple (d - c) d (b - a) b (q - p) q := by
  have turn : ∀ {a b c d p q : Int}, Bet a b c d p q → Bet (d - c) d (b - a) b (q - p) q := fun {a b c d p q} ⟨q0, h1, h2⟩ => by
    refine ⟨q0, ?_, ?_⟩
    · rw [Int.sub_mul, Int.sub_mul, Int.mul_comm d q]
      omega
    · rw [Int.sub_mul, Int.sub_mul, Int.mul_comm b q]
      omega
  have back : ∀ {p q : Int}, Bet (d - c) d (b - a) b p q → Bet a b c d (q - p) q := fun {p q} k => by
    have := turn k
    rw [show b - (b - a) = a by omega, show d - (d - c) = c by omega] at this
    exact this
  have bp : ∀ {p q : Int}, Bet a b c d p q → 0 < p := fun {p q} ⟨q0, h1, _⟩ => by
    have : 0 ≤ a * q := Int.mul_nonneg a0 (by omega)
    rcases Int.lt_or_le 0 p with z | z
    · exact z
    · have := Int.mul_nonpos_of_nonpos_of_nonneg z (show 0 ≤ b by omega)
      omega
  have ab2 : a < b := by
    rcases Int.lt_or_eq_of_le ab with z | z
    · exact z
    · subst z
      have : a * d < c * a := lt
      rw [Int.mul_comm c a] at this
      have := Int.lt_of_mul_lt_mul_left this a0
      omega
  obtain ⟨P, Q, hs⟩ := simple_ex (d + b).toNat (d - c) d (b - a) b ⟨by omega, d0, by omega, by omega, by rw [Int.sub_mul, Int.sub_mul, Int.mul_comm d b]; omega⟩ (Nat.le_refl _)
  have q1 := (hs.2 _ _ (turn h.1)).2
  have q2 := (h.2 _ _ (back hs.1)).2
  have eq : Q = q := by omega
  subst eq
  have p1 := (hs.2 _ _ (turn h.1)).1
  have hb := back hs.1
  rcases Int.lt_or_eq_of_le p1 with z | z
  · exfalso
    exact top_one a0 cd d0 (bp h.1) h.1 hb (by omega) fun p'' q'' k => (h.2 _ _ k).2
  · rw [← z]
    exact hs
end M10
end Lw

namespace Lw
namespace M10
/-- the fraction with the least bottom between two, as a rational number -/
def SimpleQ (q r f : Rat) : Prop := q < f ∧ f < r ∧ ∀ g : Rat, q < g → g < r → f.num ≤ g.num ∧ f.den ≤ g.den
theorem SimpleQ.uniq {q r f g : Rat} (h : SimpleQ q r f) (k : SimpleQ q r g) : f = g := by
  have h1 := h.2.2 g k.1 k.2.1
  have h2 := k.2.2 f h.1 h.2.1
  exact Rat.ext (by omega) (by omega)
/-- within another stretch that holds it -/
theorem SimpleQ.sub {q r q' r' f : Rat} (h : SimpleQ q r f) (h1 : q ≤ q') (h2 : q' < f) (h3 : f < r') (h4 : r' ≤ r) : SimpleQ q' r' f :=
  ⟨h2, h3, fun g g1 g2 => h.2.2 g (by grind) (by grind)⟩
theorem divInt_lt {a b c d : Int} (b0 : 0 < b) (d0 : 0 < d) : Rat.divInt a b < Rat.divInt c d ↔ a * d < c * b := by
  have h1 : a * ((Rat.divInt a b).den : Int) = (Rat.divInt a b).num * b := (Rat.divInt_eq_divInt_iff (by omega) (by have := (Rat.divInt a b).den_pos; omega)).mp (Rat.num_divInt_den _).symm
  have h2 : c * ((Rat.divInt c d).den : Int) = (Rat.divInt c d).num * d := (Rat.divInt_eq_divInt_iff (by omega) (by have := (Rat.divInt c d).den_pos; omega)).mp (Rat.num_divInt_den _).symm
  rw [Rat.lt_iff]
  have p1 : (0 : Int) < (Rat.divInt a b).den := by have := (Rat.divInt a b).den_pos; omega
  have p2 : (0 : Int) < (Rat.divInt c d).den := by have := (Rat.divInt c d).den_pos; omega
  generalize (Rat.divInt a b).num = n1 at *
  generalize (Rat.divInt c d).num = n2 at *
  generalize ((Rat.divInt a b).den : Int) = d1 at *
  generalize ((Rat.divInt c d).den : Int) = d2 at *
  have w1 : (a * d) * (d1 * d2) = (n1 * d2) * (b * d) := by
    rw [show (a * d) * (d1 * d2) = (a * d1) * (d * d2) by simp only [Int.mul_assoc, Int.mul_left_comm, Int.mul_comm], h1]
    simp only [Int.mul_assoc, Int.mul_left_comm, Int.mul_comm]
  have w2 : (c * b) * (d1 * d2) = (n2 * d1) * (b * d) := by
    rw [show (c * b) * (d1 * d2) = (c * d2) * (b * d1) by simp only [Int.mul_assoc, Int.mul_left_comm, Int.mul_comm], h2]
    simp only [Int.mul_assoc, Int.mul_left_comm, Int.mul_comm]
  have q1 : 0 < d1 * d2 := Int.mul_pos p1 p2
  have q2 : 0 < b * d := Int.mul_pos b0 d0
  constructor
  · intro h
    have := Int.mul_lt_mul_of_pos_right h q2
    exact Int.lt_of_mul_lt_mul_right (a := d1 * d2) (by omega) (by omega)
  · intro h
    have := Int.mul_lt_mul_of_pos_right h q1
    exact Int.lt_of_mul_lt_mul_right (a := b * d) (by omega) (by omega)
theorem bet_rat {a b c d p s : Int} (b0 : 0 < b) (d0 : 0 < d) (s0 : 0 < s) : Bet a b c d p s ↔ Rat.divInt a b < Rat.divInt p s ∧ Rat.divInt p s < Rat.divInt c d := by
  rw [divInt_lt b0 s0, divInt_lt s0 d0]
  exact ⟨fun h => h.2, fun h => ⟨s0, h⟩⟩
theorem low_of {p s : Int} (s0 : 0 < s) (c : Int.gcd p s = 1) : (Rat.divInt p s).num = p ∧ ((Rat.divInt p s).den : Int) = s := by
  obtain ⟨f, rfl⟩ : ∃ f : Nat, s = f := ⟨s.toNat, by omega⟩
  have c' : p.natAbs.Coprime f := c
  rw [← Rat.mk_eq_divInt (nz := by omega) (c := c')]
  exact ⟨rfl, rfl⟩
/-- any fraction in lowest terms has the least parts -/
theorem num_min {p s : Int} (s0 : 0 < s) (p0 : 0 ≤ p) : (Rat.divInt p s).num ≤ p ∧ ((Rat.divInt p s).den : Int) ≤ s := by
  have g0 : 0 < ((Int.gcd p s : Nat) : Int) := by
    have := Int.gcd_pos_of_ne_zero_right p (show s ≠ 0 by omega)
    omega
  obtain ⟨p', hp⟩ := Int.gcd_dvd_left p s
  obtain ⟨s', hs⟩ := Int.gcd_dvd_right p s
  generalize hg : Int.gcd p s = g at *
  have sp : 0 < s' := by
    rcases Int.lt_or_le 0 s' with x | x
    · exact x
    · have := Int.mul_nonpos_of_nonneg_of_nonpos (show 0 ≤ (g : Int) by omega) x
      omega
  have pp : 0 ≤ p' := by
    rcases Int.lt_or_le p' 0 with x | x
    · have := Int.mul_neg_of_pos_of_neg g0 x
      omega
    · exact x
  have cop : Int.gcd p' s' = 1 := by
    have z : Int.gcd p s = (g : Int).natAbs * Int.gcd p' s' := by
      conv => lhs; rw [hp, hs]
      rw [Int.gcd_mul_left]
    rw [hg] at z
    have z2 : g * 1 = g * Int.gcd p' s' := by simpa using z
    exact (Nat.eq_of_mul_eq_mul_left (by omega) z2).symm
  have e : Rat.divInt p s = Rat.divInt p' s' := (Rat.divInt_eq_divInt_iff (by omega) (by omega)).mpr (by
    rw [hp, hs]
    simp only [Int.mul_assoc, Int.mul_left_comm, Int.mul_comm])
  obtain ⟨e1, e2⟩ := low_of sp cop
  rw [e, e1, e2]
  have m1 : 1 * p' ≤ (g : Int) * p' := Int.mul_le_mul_of_nonneg_right (by omega) pp
  have m2 : 1 * s' ≤ (g : Int) * s' := Int.mul_le_mul_of_nonneg_right (by omega) (by omega)
  omega
theorem top_pos {a b c d p s : Int} (a0 : 0 ≤ a) (b0 : 0 < b) (h : Bet a b c d p s) : 0 < p := by
  obtain ⟨q0, h1, _⟩ := h
  have : 0 ≤ a * s := Int.mul_nonneg a0 (by omega)
  rcases Int.lt_or_le 0 p with z | z
  · exact z
  · have := Int.mul_nonpos_of_nonpos_of_nonneg z (show 0 ≤ b by omega)
    omega
theorem simple_q {a b c d p s : Int} (a0 : 0 ≤ a) (b0 : 0 < b) (d0 : 0 < d) (h : Simple a b c d p s) : SimpleQ (Rat.divInt a b) (Rat.divInt c d) (Rat.divInt p s) ∧ (Rat.divInt p s).num = p ∧ ((Rat.divInt p s).den : Int) = s := by
  have p0 := top_pos a0 b0 h.1
  obtain ⟨e1, e2⟩ := low_of h.1.1 (simple_cop h p0)
  have hb := (bet_rat b0 d0 h.1.1).mp h.1
  refine ⟨⟨hb.1, hb.2, fun g g1 g2 => ?_⟩, e1, e2⟩
  have gd : (0 : Int) < g.den := by have := g.den_pos; omega
  have := h.2 g.num g.den ((bet_rat b0 d0 gd).mpr (by rw [Rat.num_divInt_den]; exact ⟨g1, g2⟩))
  rw [e1]
  omega
theorem q_simple {a b c d : Int} {f : Rat} (a0 : 0 ≤ a) (b0 : 0 < b) (d0 : 0 < d) (h : SimpleQ (Rat.divInt a b) (Rat.divInt c d) f) : Simple a b c d f.num f.den := by
  have fd : (0 : Int) < f.den := by have := f.den_pos; omega
  refine ⟨(bet_rat b0 d0 fd).mpr (by rw [Rat.num_divInt_den]; exact ⟨h.1, h.2.1⟩), fun p' s' k => ?_⟩
  have kb := (bet_rat b0 d0 k.1).mp k
  have := h.2.2 _ kb.1 kb.2
  have := num_min k.1 (Int.le_of_lt (top_pos a0 b0 k))
  omega
theorem sq_le {q r f : Rat} (hq : 0 ≤ q.num) (h : SimpleQ q r f) : 0 < f.num ∧ f.num ≤ q.num + r.num ∧ (f.den : Int) ≤ q.den + r.den := by
  have qd : (0 : Int) < q.den := by have := q.den_pos; omega
  have rd : (0 : Int) < r.den := by have := r.den_pos; omega
  have h' : SimpleQ (Rat.divInt q.num q.den) (Rat.divInt r.num r.den) f := by rw [Rat.num_divInt_den, Rat.num_divInt_den]; exact h
  have s := q_simple hq qd rd h'
  have lt : q.num * r.den < r.num * q.den := by
    rw [← Rat.lt_iff]
    grind [SimpleQ]
  have := s.2 (q.num + r.num) (q.den + r.den) ⟨by omega, by rw [Int.mul_add, Int.add_mul]; omega, by rw [Int.mul_add, Int.add_mul]; omega⟩
  exact ⟨top_pos hq qd s.1, this.1, this.2⟩
theorem one_sub (q : Rat) : (1 - q).num = q.den - q.num ∧ (1 - q).den = q.den := by
  have qd : (0 : Int) < q.den := by have := q.den_pos; omega
  have e : 1 - q = Rat.divInt (q.den - q.num) q.den := by
    conv => lhs; rw [← Rat.num_divInt_den q]
    rw [show (1 : Rat) = Rat.divInt 1 1 from rfl, Rat.divInt_sub_divInt _ _ (by omega) (by omega)]
    simp
  have c : Int.gcd (q.den - q.num) q.den = 1 := by
    have h : Int.gcd q.num q.den = 1 := q.reduced
    rw [show (q.den : Int) - q.num = -q.num + q.den by omega, Int.gcd_add_self_left, Int.neg_gcd]
    exact h
  obtain ⟨e1, e2⟩ := low_of qd c
  rw [← e] at e1 e2
  exact ⟨e1, by omega⟩
theorem mirror_q {q r f : Rat} (h0 : 0 ≤ q) (h1 : r ≤ 1) (h : SimpleQ q r f) : SimpleQ (1 - r) (1 - q) (1 - f) := by
  have n0 : 0 ≤ q.num := Rat.num_nonneg.mpr h0
  have qd : (0 : Int) < q.den := by have := q.den_pos; omega
  have rd : (0 : Int) < r.den := by have := r.den_pos; omega
  have s := q_simple n0 qd rd (c := r.num) (f := f) (by rw [Rat.num_divInt_den, Rat.num_divInt_den]; exact h)
  have rl : r.num ≤ r.den := by
    have := (Rat.le_iff (a := r) (b := 1)).mp h1
    simpa using this
  have ql : q.num ≤ q.den := by
    have := (Rat.le_iff (a := q) (b := 1)).mp (by grind [SimpleQ])
    simpa using this
  have lt : q.num * r.den < r.num * q.den := by
    rw [← Rat.lt_iff]
    grind [SimpleQ]
  have m := simple_mirror n0 qd rd ql rl lt s
  have z := simple_q (by omega) rd qd m
  obtain ⟨e1, e2⟩ := one_sub q
  obtain ⟨e3, e4⟩ := one_sub r
  obtain ⟨e5, e6⟩ := one_sub f
  have b1 : Rat.divInt (r.den - r.num) r.den = 1 - r := by rw [← e3, ← e4]; exact Rat.num_divInt_den _
  have b2 : Rat.divInt (q.den - q.num) q.den = 1 - q := by rw [← e1, ← e2]; exact Rat.num_divInt_den _
  have b3 : Rat.divInt (f.den - f.num) f.den = 1 - f := by rw [← e5, ← e6]; exact Rat.num_divInt_den _
  rw [b1, b2, b3] at z
  exact z.1
/-- between neighbours it is the middle -/
theorem middle_q {a b c d : Int} (a0 : 0 ≤ a) (b0 : 0 < b) (c0 : 0 < c) (d0 : 0 < d) (nb : b * c - a * d = 1) : Simple a b c d (a + c) (b + d) := by
  refine ⟨⟨by omega, ?_, ?_⟩, fun p s ⟨s0, h1, h2⟩ => ?_⟩
  · rw [Int.mul_add, Int.add_mul, Int.mul_comm c b]
    omega
  · rw [Int.mul_add, Int.add_mul, Int.mul_comm c b]
    omega
  · have u : 1 ≤ c * s - p * d := by omega
    have v : 1 ≤ p * b - a * s := by omega
    have e1 : (b * c - a * d) * s = b * (c * s - p * d) + d * (p * b - a * s) := by
      simp only [Int.mul_sub, Int.sub_mul, Int.mul_assoc, Int.mul_left_comm, Int.mul_comm]
      omega
    have e2 : (b * c - a * d) * p = a * (c * s - p * d) + c * (p * b - a * s) := by
      simp only [Int.mul_sub, Int.sub_mul, Int.mul_assoc, Int.mul_left_comm, Int.mul_comm]
      omega
    rw [nb, Int.one_mul] at e1 e2
    have m1 := Int.mul_le_mul_of_nonneg_left u (Int.le_of_lt b0)
    have m2 := Int.mul_le_mul_of_nonneg_left v (Int.le_of_lt d0)
    have m3 := Int.mul_le_mul_of_nonneg_left u a0
    have m4 := Int.mul_le_mul_of_nonneg_left v (Int.le_of_lt c0)
    omega
/-- the loop's states, the quotients met so far, nothing above M -/
def St (M a b c d : Int) : Prop := Ok a b c d ∧ a ≤ M ∧ b ≤ M ∧ c ≤ M ∧ d ≤ M
inductive Ch (M a0 b0 c0 d0 : Int) : List Int → Int → Int → Int → Int → Prop
  | nil : St M a0 b0 c0 d0 → Ch M a0 b0 c0 d0 [] a0 b0 c0 d0
  | snoc {ws : List Int} {a b c d : Int} : Ch M a0 b0 c0 d0 ws a b c d → (a / b + 1) * d ≥ c → Ch M a0 b0 c0 d0 (ws ++ [a / b]) d (c - a / b * d) b (a - a / b * b)
variable {M a0 b0 c0 d0 : Int}
theorem St.turn {a b c d : Int} (h : St M a b c d) (z : (a / b + 1) * d ≥ c) : St M d (c - a / b * d) b (a - a / b * b) := by
  obtain ⟨o, l1, l2, l3, l4⟩ := h
  obtain ⟨o', y1, y2, y3⟩ := turn_ok o z
  exact ⟨o', by omega, by omega, by omega, by omega⟩
theorem Ch.st {ws : List Int} {a b c d : Int} (h : Ch M a0 b0 c0 d0 ws a b c d) : St M a b c d := by
  induction h with
  | nil s => exact s
  | snoc _ z ih => exact ih.turn z
theorem Ch.ws {ws : List Int} {a b c d : Int} (h : Ch M a0 b0 c0 d0 ws a b c d) : ∀ w ∈ ws, 0 ≤ w ∧ w ≤ M := by
  induction h with
  | nil s => intro w hw; cases hw
  | @snoc ws a b c d k z ih =>
    intro w hw
    rcases List.mem_append.mp hw with hw | hw
    · exact ih w hw
    · simp only [List.mem_cons, List.not_mem_nil, or_false] at hw
      subst hw
      obtain ⟨⟨h0, h1, _⟩, h2, _⟩ := k.st
      have := Int.ediv_nonneg h0 (show 0 ≤ b by omega)
      have := Int.ediv_le_self b h0
      omega
theorem Ch.len {ws : List Int} {a b c d : Int} (h : Ch M a0 b0 c0 d0 ws a b c d) : ws.length = 0 ∨ ∃ n, ws.length = n + 1 ∧ b ≤ a ∧ (2 : Int) ^ n * (a * d) ≤ M * M := by
  induction h with
  | nil s => exact .inl rfl
  | @snoc ws a b c d k z ih =>
    refine .inr ⟨ws.length, by simp, ?_⟩
    obtain ⟨o, l1, l2, l3, l4⟩ := k.st
    obtain ⟨o', y1, y2, y3⟩ := turn_ok o z
    have a0' := o.1
    have x0 : 0 ≤ a - a / b * b := o'.2.2.2.1
    refine ⟨y1, ?_⟩
    rcases ih with e | ⟨n, en, le, bd⟩
    · rw [e, Int.pow_zero, Int.one_mul]
      exact Int.mul_le_mul l4 (by omega) x0 (by omega)
    · have hw : 1 ≤ a / b := by
        have := Int.ediv_le_ediv o.2.1 le
        rwa [Int.ediv_self (by have := o.2.1; omega)] at this
      have hb : 1 * b ≤ a / b * b := Int.mul_le_mul_of_nonneg_right hw (show 0 ≤ b by have := o.2.1; omega)
      have two : (a - a / b * b) * 2 ≤ a := by omega
      have p0 : (0 : Int) ≤ 2 ^ n * d := Int.mul_nonneg (Int.pow_nonneg (by omega)) (by omega)
      have m := Int.mul_le_mul_of_nonneg_left two p0
      rw [en, Int.pow_succ]
      have e1 : (2 : Int) ^ n * 2 * (d * (a - a / b * b)) = 2 ^ n * d * ((a - a / b * b) * 2) := by
        simp only [Int.mul_assoc, Int.mul_left_comm, Int.mul_comm]
      have e2 : (2 : Int) ^ n * d * a = 2 ^ n * (a * d) := by
        rw [Int.mul_assoc, Int.mul_comm d a]
      omega
theorem Ch.short {ws : List Int} {a b c d : Int} {m : Nat} (h : Ch M a0 b0 c0 d0 ws a b c d) (z : (a / b + 1) * d ≥ c) (hM : M < 2 ^ m) (m1 : 0 ≤ M) : ws.length ≤ 2 * m := by
  rcases h.len with e | ⟨n, en, le, bd⟩
  · omega
  · obtain ⟨o, l1, l2, l3, l4⟩ := h.st
    obtain ⟨o', y1, y2, y3⟩ := turn_ok o z
    have a1 : 1 ≤ a * d := by
      have := Int.mul_le_mul (show 1 ≤ a by have := o.2.1; omega) (show 1 ≤ d by omega) (by omega) (show 0 ≤ a by have := o.2.1; omega)
      omega
    have p0 : (0 : Int) ≤ 2 ^ n := Int.pow_nonneg (by omega)
    have h1 := Int.mul_le_mul_of_nonneg_left a1 p0
    have h2 : M * M < 2 ^ m * 2 ^ m := by
      have q1 := Int.mul_le_mul_of_nonneg_left (Int.le_of_lt hM) m1
      have q2 : M * 2 ^ m < 2 ^ m * 2 ^ m := Int.mul_lt_mul_of_pos_right hM (by omega)
      omega
    rw [← Int.pow_add] at h2
    have h3 : (2 : Int) ^ n < 2 ^ (m + m) := by omega
    have h4 : n < m + m := by
      rcases Nat.lt_or_ge n (m + m) with q | q
      · exact q
      · exfalso
        have : (2 : Nat) ^ (m + m) ≤ 2 ^ n := Nat.pow_le_pow_right (by decide) q
        have h5 : ((2 ^ (m + m) : Nat) : Int) ≤ ((2 ^ n : Nat) : Int) := by exact_mod_cast this
        simp only [Int.natCast_pow, Int.cast_ofNat_Int] at h5
        omega
    omega
/-- the way back -/
theorem Ch.back {ws : List Int} {w a b c d p s : Int} (h : Ch M a0 b0 c0 d0 (ws ++ [w]) a b c d) (k : Simple a b c d p s) : ∃ a' b' c' d', Ch M a0 b0 c0 d0 ws a' b' c' d' ∧ Simple a' b' c' d' (w * p + s) p := by
  generalize e : ws ++ [w] = us at h
  cases h with
  | nil _ => exact absurd (congrArg List.length e) (by simp)
  | @snoc us' a' b' c' d' h z =>
    obtain ⟨e1, e2⟩ := List.append_inj' e rfl
    cases e1
    cases e2
    exact ⟨_, _, _, _, h, simple_turn h.st.1 z k⟩
theorem Ch.nil_end {a b c d : Int} (h : Ch M a0 b0 c0 d0 [] a b c d) : a = a0 ∧ b = b0 ∧ c = c0 ∧ d = d0 := by
  generalize e : ([] : List Int) = us at h
  cases h with
  | nil _ => exact ⟨rfl, rfl, rfl, rfl⟩
  | snoc h z => exact absurd (congrArg List.length e) (by simp)
/-- top and bottom stay small -/
theorem simple_small {a b c d p s : Int} (h : St M a b c d) (k : Simple a b c d p s) : 0 < p ∧ p ≤ 2 * M ∧ 0 < s ∧ s ≤ 2 * M := by
  obtain ⟨⟨h1, h2, h3, h4, h5⟩, l1, l2, l3, l4⟩ := h
  have := k.2 (a + c) (b + d) ⟨by omega, by rw [Int.mul_add, Int.add_mul]; omega, by rw [Int.mul_add, Int.add_mul]; omega⟩
  have := top_pos h1 h2 k.1
  have := k.1.1
  omega
end M10
end Lw

namespace Lw
namespace M10
/-- the middle of two neighbours -/
def medi (q r : Rat) : Rat := Rat.divInt (q.num + r.num) (q.den + r.den)
theorem medi_simple {q r : Rat} (h0 : 0 ≤ q) (h1 : 0 < r) (nb : (q.den : Int) * r.num - q.num * r.den = 1) : SimpleQ q r (medi q r) ∧ (medi q r).num = q.num + r.num ∧ ((medi q r).den : Int) = q.den + r.den := by
  have qd : (0 : Int) < q.den := by have := q.den_pos; omega
  have rd : (0 : Int) < r.den := by have := r.den_pos; omega
  have n0 : 0 ≤ q.num := Rat.num_nonneg.mpr h0
  have r0 : 0 < r.num := by
    rcases Int.lt_or_le 0 r.num with y | y
    · exact y
    · have := Int.mul_nonpos_of_nonneg_of_nonpos (Int.le_of_lt qd) y
      have := Int.mul_nonneg n0 (Int.le_of_lt rd)
      omega
  have s := middle_q n0 qd r0 rd nb
  have z := simple_q n0 qd rd s
  rw [Rat.num_divInt_den, Rat.num_divInt_den] at z
  exact z
theorem nearer {q r f : Rat} (h : SimpleQ q r f) : SimpleQ ((q + f * ((3 : Int) : Rat)) / ((4 : Int) : Rat)) ((r + f * ((6 : Int) : Rat)) / ((7 : Int) : Rat)) f := by
  obtain ⟨h1, h2, _⟩ := id h
  have e3 : ((3 : Int) : Rat) = 3 := rfl
  have e4 : ((4 : Int) : Rat) = 4 := rfl
  have e6 : ((6 : Int) : Rat) = 6 := rfl
  have e7 : ((7 : Int) : Rat) = 7 := rfl
  rw [e3, e4, e6, e7]
  exact h.sub (by grind) (by grind) (by grind) (by grind)
theorem far_a {n : Int} (h : 1 < n) : (Rat.divInt 1 n).num = 1 ∧ ((Rat.divInt 1 n).den : Int) = n := low_of (by omega) (by simp)
theorem far_b {n : Int} (h : 1 < n) : (Rat.divInt (n - 1) n).num = n - 1 ∧ ((Rat.divInt (n - 1) n).den : Int) = n := low_of (by omega) (by
  have e : Int.gcd (n - 1) n = Int.gcd (n - 1) 1 := by
    have := Int.gcd_add_self_right (n - 1) 1
    rwa [show 1 + (n - 1) = n by omega] at this
  rw [e]
  simp)
theorem div_whole {t b : Int} (hb : 0 < b) (h : t % b = 0) : Rat.divInt t b = ((t / b : Int) : Rat) := by
  have e : t = b * (t / b) := by
    have := Int.emod_def t b
    omega
  have e1 : ((t / b : Int) : Rat) = Rat.divInt (t / b) 1 := by
    have := Rat.num_divInt_den ((t / b : Int) : Rat)
    simpa using this.symm
  rw [e1]
  exact (Rat.divInt_eq_divInt_iff (by omega) (by decide)).mpr (by rw [Int.mul_one, Int.mul_comm]; exact e)
theorem div_le_one {t b : Int} (hb : 0 < b) (h : t ≤ b) : Rat.divInt t b ≤ 1 := by
  have e1 : (1 : Rat) = Rat.divInt 1 1 := rfl
  rw [e1, ← Rat.not_lt, divInt_lt (by decide) hb]
  omega
theorem div_nonneg {t b : Int} (hb : 0 < b) (h : 0 ≤ t) : 0 ≤ Rat.divInt t b := by
  have e1 : (0 : Rat) = Rat.divInt 0 1 := rfl
  rw [e1, ← Rat.not_lt, divInt_lt hb (by decide)]
  omega
theorem sq_ex {a b c d : Int} (a0 : 0 ≤ a) (b0 : 0 < b) (c0 : 0 < c) (d0 : 0 < d) (lt : a * d < c * b) : ∃ f, SimpleQ (Rat.divInt a b) (Rat.divInt c d) f := by
  obtain ⟨p, s, h⟩ := simple_ex (b + d).toNat a b c d ⟨a0, b0, c0, by omega, lt⟩ (Nat.le_refl _)
  exact ⟨_, (simple_q a0 b0 d0 h).1⟩
end M10
end Lw

namespace Lw
open PySem PySem.Spec PyProof.Rows L2
def top (i : Nat) : Stmt := PySem.Challenge.pw_anyfifth_k92_rings_looked_at.main.body.getD i (.Pass ⟨0, 0, 0, 0⟩)
abbrev s_is_integer : Stmt := top 2
abbrev a_is_integer (K : PySem.W.Frag) : Addr := He.ga K "is_integer"
def d_is_integer : He5.DefA := ⟨a_is_integer, "is_integer", "is_integer", defArgs s_is_integer, defBody s_is_integer, defScope s_is_integer, [], []⟩
abbrev s_is_between : Stmt := top 3
abbrev a_is_between (K : PySem.W.Frag) : Addr := He.ga K "is_between"
def d_is_between : He5.DefA := ⟨a_is_between, "is_between", "is_between", defArgs s_is_between, defBody s_is_between, defScope s_is_between, [], []⟩
abbrev s_common_divisor : Stmt := top 15
abbrev a_common_divisor (K : PySem.W.Frag) : Addr := He.ga K "common_divisor"
def d_common_divisor : He5.DefA := ⟨a_common_divisor, "common_divisor", "common_divisor", defArgs s_common_divisor, defBody s_common_divisor, defScope s_common_divisor, [], []⟩
abbrev s_parts_of : Stmt := top 20
abbrev a_parts_of (K : PySem.W.Frag) : Addr := He.ga K "parts_of"
def d_parts_of : He5.DefA := ⟨a_parts_of, "parts_of", "parts_of", defArgs s_parts_of, defBody s_parts_of, defScope s_parts_of, [], []⟩
abbrev s_need_divisor : Stmt := top 21
abbrev a_need_divisor (K : PySem.W.Frag) : Addr := He.ga K "need_divisor"
def d_need_divisor : He5.DefA := ⟨a_need_divisor, "need_divisor", "need_divisor", defArgs s_need_divisor, defBody s_need_divisor, defScope s_need_divisor, [], []⟩
abbrev s_Ratio_init : Stmt := inClass (top 22) 0
abbrev a_Ratio_init (K : PySem.W.Frag) : Addr := He.ma K (He.ga K "Ratio") "__init__"
def d_Ratio_init : He5.DefA := ⟨a_Ratio_init, "__init__", "Ratio.__init__", defArgs s_Ratio_init, defBody s_Ratio_init, defScope s_Ratio_init, [.int 1], []⟩
abbrev s_Ratio_is_number : Stmt := inClass (top 22) 1
abbrev a_Ratio_is_number (K : PySem.W.Frag) : Addr := G.smA "Ratio" "is_number" K
def d_Ratio_is_number : He5.DefA := ⟨a_Ratio_is_number, "is_number", "Ratio.is_number", defArgs s_Ratio_is_number, defBody s_Ratio_is_number, defScope s_Ratio_is_number, [], []⟩
abbrev s_Ratio_of : Stmt := inClass (top 22) 3
abbrev a_Ratio_of (K : PySem.W.Frag) : Addr := G.smA "Ratio" "of" K
def d_Ratio_of : He5.DefA := ⟨a_Ratio_of, "of", "Ratio.of", defArgs s_Ratio_of, defBody s_Ratio_of, defScope s_Ratio_of, [], []⟩
abbrev s_Ratio_lt : Stmt := inClass (top 22) 20
abbrev a_Ratio_lt (K : PySem.W.Frag) : Addr := He.ma K (He.ga K "Ratio") "__lt__"
def d_Ratio_lt : He5.DefA := ⟨a_Ratio_lt, "__lt__", "Ratio.__lt__", defArgs s_Ratio_lt, defBody s_Ratio_lt, defScope s_Ratio_lt, [], []⟩
abbrev s_Ratio_le : Stmt := inClass (top 22) 21
abbrev a_Ratio_le (K : PySem.W.Frag) : Addr := He.ma K (He.ga K "Ratio") "__le__"
def d_Ratio_le : He5.DefA := ⟨a_Ratio_le, "__le__", "Ratio.__le__", defArgs s_Ratio_le, defBody s_Ratio_le, defScope s_Ratio_le, [], []⟩
abbrev s_Ratio_gt : Stmt := inClass (top 22) 22
abbrev a_Ratio_gt (K : PySem.W.Frag) : Addr := He.ma K (He.ga K "Ratio") "__gt__"
def d_Ratio_gt : He5.DefA := ⟨a_Ratio_gt, "__gt__", "Ratio.__gt__", defArgs s_Ratio_gt, defBody s_Ratio_gt, defScope s_Ratio_gt, [], []⟩
abbrev s_Ratio_ge : Stmt := inClass (top 22) 23
abbrev a_Ratio_ge (K : PySem.W.Frag) : Addr := He.ma K (He.ga K "Ratio") "__ge__"
def d_Ratio_ge : He5.DefA := ⟨a_Ratio_ge, "__ge__", "Ratio.__ge__", defArgs s_Ratio_ge, defBody s_Ratio_ge, defScope s_Ratio_ge, [], []⟩
abbrev s_Piece_init : Stmt := inClass (top 25) 0
abbrev a_Piece_init (K : PySem.W.Frag) : Addr := He.ma K (He.ga K "Piece") "__init__"
def d_Piece_init : He5.DefA := ⟨a_Piece_init, "__init__", "Piece.__init__", defArgs s_Piece_init, defBody s_Piece_init, defScope s_Piece_init, [], []⟩
abbrev s_Piece_whole : Stmt := inClass (top 25) 1
abbrev a_Piece_whole (K : PySem.W.Frag) : Addr := G.smA "Piece" "whole" K
def d_Piece_whole : He5.DefA := ⟨a_Piece_whole, "whole", "Piece.whole", defArgs s_Piece_whole, defBody s_Piece_whole, defScope s_Piece_whole, [], []⟩
abbrev s_weights : Stmt := top 28
abbrev a_weights (K : PySem.W.Frag) : Addr := He.ga K "weights"
def d_weights : He5.DefA := ⟨a_weights, "weights", "weights", defArgs s_weights, defBody s_weights, defScope s_weights, [], []⟩
abbrev s_are_numbers : Stmt := top 30
abbrev a_are_numbers (K : PySem.W.Frag) : Addr := He.ga K "are_numbers"
def d_are_numbers : He5.DefA := ⟨a_are_numbers, "are_numbers", "are_numbers", defArgs s_are_numbers, defBody s_are_numbers, defScope s_are_numbers, [], []⟩
abbrev s_is_around : Stmt := top 31
abbrev a_is_around (K : PySem.W.Frag) : Addr := He.ga K "is_around"
def d_is_around : He5.DefA := ⟨a_is_around, "is_around", "is_around", defArgs s_is_around, defBody s_is_around, defScope s_is_around, [], []⟩
abbrev s_shows_ring : Stmt := top 32
abbrev a_shows_ring (K : PySem.W.Frag) : Addr := He.ga K "shows_ring"
def d_shows_ring : He5.DefA := ⟨a_shows_ring, "shows_ring", "shows_ring", defArgs s_shows_ring, defBody s_shows_ring, defScope s_shows_ring, [], []⟩
abbrev s_law_pen : Stmt := top 34
abbrev a_law_pen (K : PySem.W.Frag) : Addr := He.ga K "_law_pen"
def d_law_pen : He5.DefA := ⟨a_law_pen, "_law_pen", "_law_pen", defArgs s_law_pen, defBody s_law_pen, defScope s_law_pen, [], []⟩
abbrev s_law_draw : Stmt := top 35
abbrev a_law_draw (K : PySem.W.Frag) : Addr := He.ga K "_law_draw"
def d_law_draw : He5.DefA := ⟨a_law_draw, "_law_draw", "_law_draw", defArgs s_law_draw, defBody s_law_draw, defScope s_law_draw, [], []⟩
abbrev s_law_pick : Stmt := top 36
abbrev a_law_pick (K : PySem.W.Frag) : Addr := He.ga K "_law_pick"
def d_law_pick : He5.DefA := ⟨a_law_pick, "_law_pick", "_law_pick", defArgs s_law_pick, defBody s_law_pick, defScope s_law_pick, [], []⟩
abbrev s_law_walk : Stmt := top 37
abbrev a_law_walk (K : PySem.W.Frag) : Addr := He.ga K "_law_walk"
def d_law_walk : He5.DefA := ⟨a_law_walk, "_law_walk", "_law_walk", defArgs s_law_walk, defBody s_law_walk, defScope s_law_walk, [], []⟩
abbrev s_law_piece : Stmt := top 38
abbrev a_law_piece (K : PySem.W.Frag) : Addr := He.ga K "_law_piece"
def d_law_piece : He5.DefA := ⟨a_law_piece, "_law_piece", "_law_piece", defArgs s_law_piece, defBody s_law_piece, defScope s_law_piece, [], []⟩
abbrev s_law_pair_at : Stmt := top 39
abbrev a_law_pair_at (K : PySem.W.Frag) : Addr := He.ga K "_law_pair_at"
def d_law_pair_at : He5.DefA := ⟨a_law_pair_at, "_law_pair_at", "_law_pair_at", defArgs s_law_pair_at, defBody s_law_pair_at, defScope s_law_pair_at, [], []⟩
abbrev s_law_meeting : Stmt := top 40
abbrev a_law_meeting (K : PySem.W.Frag) : Addr := He.ga K "_law_meeting"
def d_law_meeting : He5.DefA := ⟨a_law_meeting, "_law_meeting", "_law_meeting", defArgs s_law_meeting, defBody s_law_meeting, defScope s_law_meeting, [], []⟩
abbrev s_law_spot : Stmt := top 41
abbrev a_law_spot (K : PySem.W.Frag) : Addr := He.ga K "_law_spot"
def d_law_spot : He5.DefA := ⟨a_law_spot, "_law_spot", "_law_spot", defArgs s_law_spot, defBody s_law_spot, defScope s_law_spot, [], []⟩
abbrev s_law_order : Stmt := top 42
abbrev a_law_order (K : PySem.W.Frag) : Addr := He.ga K "_law_order"
def d_law_order : He5.DefA := ⟨a_law_order, "_law_order", "_law_order", defArgs s_law_order, defBody s_law_order, defScope s_law_order, [], []⟩
abbrev s_law_bent_order : Stmt := top 43
abbrev a_law_bent_order (K : PySem.W.Frag) : Addr := He.ga K "_law_bent_order"
def d_law_bent_order : He5.DefA := ⟨a_law_bent_order, "_law_bent_order", "_law_bent_order", defArgs s_law_bent_order, defBody s_law_bent_order, defScope s_law_bent_order, [], []⟩
abbrev s_law_heard : Stmt := top 44
abbrev a_law_heard (K : PySem.W.Frag) : Addr := He.ga K "_law_heard"
def d_law_heard : He5.DefA := ⟨a_law_heard, "_law_heard", "_law_heard", defArgs s_law_heard, defBody s_law_heard, defScope s_law_heard, [], []⟩
abbrev s_law_due : Stmt := top 45
abbrev a_law_due (K : PySem.W.Frag) : Addr := He.ga K "_law_due"
def d_law_due : He5.DefA := ⟨a_law_due, "_law_due", "_law_due", defArgs s_law_due, defBody s_law_due, defScope s_law_due, [], []⟩
abbrev s_law_numbers : Stmt := top 46
abbrev a_law_numbers (K : PySem.W.Frag) : Addr := He.ga K "_law_numbers"
def d_law_numbers : He5.DefA := ⟨a_law_numbers, "_law_numbers", "_law_numbers", defArgs s_law_numbers, defBody s_law_numbers, defScope s_law_numbers, [], []⟩
abbrev s_law_kinds_right : Stmt := top 47
abbrev a_law_kinds_right (K : PySem.W.Frag) : Addr := He.ga K "_law_kinds_right"
def d_law_kinds_right : He5.DefA := ⟨a_law_kinds_right, "_law_kinds_right", "_law_kinds_right", defArgs s_law_kinds_right, defBody s_law_kinds_right, defScope s_law_kinds_right, [], []⟩
abbrev s_law : Stmt := top 48
abbrev a_law (K : PySem.W.Frag) : Addr := He.ga K "law"
def d_law : He5.DefA := ⟨a_law, "law", "law", defArgs s_law, defBody s_law, defScope s_law, [], []⟩
def fns : List He5.DefA := [d_is_integer, d_is_between, d_common_divisor, d_parts_of, d_need_divisor, d_Ratio_init, d_Ratio_is_number, d_Ratio_of, d_Ratio_lt, d_Ratio_le, d_Ratio_gt, d_Ratio_ge, d_Piece_init, d_Piece_whole, d_weights, d_are_numbers, d_is_around, d_shows_ring, d_law_pen, d_law_draw, d_law_pick, d_law_walk, d_law_piece, d_law_pair_at, d_law_meeting, d_law_spot, d_law_order, d_law_bent_order, d_law_heard, d_law_due, d_law_numbers, d_law_kinds_right, d_law]
def exs : List G.ExB := [G.gloB "is_integer", G.gloB "is_between", G.gloB "common_divisor", G.gloB "parts_of", G.gloB "need_divisor", G.gloB "weights", G.gloB "are_numbers", G.gloB "is_around", G.gloB "shows_ring", G.gloB "_law_pen", G.gloB "_law_draw", G.gloB "_law_pick", G.gloB "_law_walk", G.gloB "_law_piece", G.gloB "_law_pair_at", G.gloB "_law_meeting", G.gloB "_law_spot", G.gloB "_law_order", G.gloB "_law_bent_order", G.gloB "_law_heard", G.gloB "_law_due", G.gloB "_law_numbers", G.gloB "_law_kinds_right", G.gloB "law", G.gloB "Ratio", G.clsB "Ratio", G.isiB "Ratio", G.rdB "Ratio", G.mkrB "Ratio", G.gloB "Piece", G.clsB "Piece", G.isiB "Piece", G.rdB "Piece", G.mkrB "Piece", G.gloB "BadPiece", G.gloB "FifthError", G.supB "BadPiece" ["part"] "/claim/cut.py", G.exmB "BadPiece" "FifthError" true, G.tabB "_law_kinds_right", G.smB "Ratio" "is_number", G.smB "Ratio" "of", G.ownB "Ratio" "__lt__", G.ownB "Ratio" "__le__", G.ownB "Ratio" "__gt__", G.ownB "Ratio" "__ge__", G.smB "Piece" "whole", G.noatB "Ratio" "top", G.noatB "Ratio" "bottom", G.noatB "Piece" "left", G.noatB "Piece" "right", G.freB "isinstance", G.freB "int", G.freB "bool", G.freB "abs", G.freB "len", G.freB "range", G.freB "list", G.freB "tuple", G.freB "repr", G.freB "super", G.freB "sorted", G.freB "set", G.freB "enumerate", G.freB "all", G.freB "ValueError", G.gintB "MOST_NUMBER" (48), G.kitB (fun K => .ref (He.ga K "Ratio")) "Ratio" true, G.kitB (fun K => .ref (He.ga K "Piece")) "Ratio" false, G.nfB "Ratio" (fun K => .ref (He.ga K "Ratio")), G.kitB (fun K => .ref (He.ga K "Ratio")) "Piece" false, G.kitB (fun K => .ref (He.ga K "Piece")) "Piece" true, G.kitB (fun _ => .type "int") "Ratio" false, G.nfB "Ratio" (fun _ => .type "int"), G.kitB (fun _ => .type "int") "Piece" false, G.kitB (fun _ => .type "str") "Ratio" false, G.nfB "Ratio" (fun _ => .type "str"), G.kitB (fun _ => .type "str") "Piece" false, G.kitB (fun _ => .type "NoneType") "Ratio" false, G.nfB "Ratio" (fun _ => .type "NoneType"), G.kitB (fun _ => .type "NoneType") "Piece" false, G.kitB (fun _ => .type "bool") "Ratio" false, G.nfB "Ratio" (fun _ => .type "bool"), G.kitB (fun _ => .type "bool") "Piece" false, G.kitB (fun _ => .type "tuple") "Ratio" false, G.nfB "Ratio" (fun _ => .type "tuple"), G.kitB (fun _ => .type "tuple") "Piece" false, G.kitB (fun _ => .type "list") "Ratio" false, G.nfB "Ratio" (fun _ => .type "list"), G.kitB (fun _ => .type "list") "Piece" false, G.kitB (fun _ => .type "dict") "Ratio" false, G.nfB "Ratio" (fun _ => .type "dict"), G.kitB (fun _ => .type "dict") "Piece" false, G.kitTB (fun K => .ref (He.ga K "Ratio")) "int" false, G.kitTB (fun K => .ref (He.ga K "Piece")) "int" false, G.exvB "BadPiece", G.kitB (fun K => .ref (He.ga K "BadPiece")) "BadPiece" true, G.kitTB (fun K => .ref (He.ga K "BadPiece")) "ValueError" true, G.noFB "BadPiece" "part", G.noIntB "Ratio"]
abbrev Tx (K : PySem.W.Frag) (mg : Str → Option Value) : Prop := G.Txt exs fns K mg
section
variable {K : PySem.W.Frag} {mg : Str → Option Value} (T : Tx K mg)
include T
theorem gl_is_integer : mg "is_integer" = some (.ref (He.ga K "is_integer")) := T.gl 0 "is_integer"
theorem gl_is_between : mg "is_between" = some (.ref (He.ga K "is_between")) := T.gl 1 "is_between"
theorem gl_common_divisor : mg "common_divisor" = some (.ref (He.ga K "common_divisor")) := T.gl 2 "common_divisor"
theorem gl_parts_of : mg "parts_of" = some (.ref (He.ga K "parts_of")) := T.gl 3 "parts_of"
theorem gl_need_divisor : mg "need_divisor" = some (.ref (He.ga K "need_divisor")) := T.gl 4 "need_divisor"
theorem gl_weights : mg "weights" = some (.ref (He.ga K "weights")) := T.gl 5 "weights"
theorem gl_are_numbers : mg "are_numbers" = some (.ref (He.ga K "are_numbers")) := T.gl 6 "are_numbers"
theorem gl_is_around : mg "is_around" = some (.ref (He.ga K "is_around")) := T.gl 7 "is_around"
theorem gl_shows_ring : mg "shows_ring" = some (.ref (He.ga K "shows_ring")) := T.gl 8 "shows_ring"
theorem gl_law_pen : mg "_law_pen" = some (.ref (He.ga K "_law_pen")) := T.gl 9 "_law_pen"
theorem gl_law_draw : mg "_law_draw" = some (.ref (He.ga K "_law_draw")) := T.gl 10 "_law_draw"
theorem gl_law_pick : mg "_law_pick" = some (.ref (He.ga K "_law_pick")) := T.gl 11 "_law_pick"
theorem gl_law_walk : mg "_law_walk" = some (.ref (He.ga K "_law_walk")) := T.gl 12 "_law_walk"
theorem gl_law_piece : mg "_law_piece" = some (.ref (He.ga K "_law_piece")) := T.gl 13 "_law_piece"
theorem gl_law_pair_at : mg "_law_pair_at" = some (.ref (He.ga K "_law_pair_at")) := T.gl 14 "_law_pair_at"
theorem gl_law_meeting : mg "_law_meeting" = some (.ref (He.ga K "_law_meeting")) := T.gl 15 "_law_meeting"
theorem gl_law_spot : mg "_law_spot" = some (.ref (He.ga K "_law_spot")) := T.gl 16 "_law_spot"
theorem gl_law_order : mg "_law_order" = some (.ref (He.ga K "_law_order")) := T.gl 17 "_law_order"
theorem gl_law_bent_order : mg "_law_bent_order" = some (.ref (He.ga K "_law_bent_order")) := T.gl 18 "_law_bent_order"
theorem gl_law_heard : mg "_law_heard" = some (.ref (He.ga K "_law_heard")) := T.gl 19 "_law_heard"
theorem gl_law_due : mg "_law_due" = some (.ref (He.ga K "_law_due")) := T.gl 20 "_law_due"
theorem gl_law_numbers : mg "_law_numbers" = some (.ref (He.ga K "_law_numbers")) := T.gl 21 "_law_numbers"
theorem gl_law_kinds_right : mg "_law_kinds_right" = some (.ref (He.ga K "_law_kinds_right")) := T.gl 22 "_law_kinds_right"
theorem gl_law : mg "law" = some (.ref (He.ga K "law")) := T.gl 23 "law"
theorem gl_Ratio : mg "Ratio" = some (.ref (He.ga K "Ratio")) := T.gl 24 "Ratio"
theorem cl_Ratio : Cls K (He.ga K "Ratio") := He.cls_ok (T.fact 25)
theorem is_Ratio : G.IsiC K (He.ga K "Ratio") := G.isiB_ok (T.fact 26)
theorem rd_Ratio : ClX.CRead K (He.ga K "Ratio") (.type "type") := G.rdB_ok (T.fact 27)
theorem mk_Ratio : Mk K (He.ga K "Ratio") (a_Ratio_init K) := He.mkr_ok (T.fact 28)
theorem gl_Piece : mg "Piece" = some (.ref (He.ga K "Piece")) := T.gl 29 "Piece"
theorem cl_Piece : Cls K (He.ga K "Piece") := He.cls_ok (T.fact 30)
theorem is_Piece : G.IsiC K (He.ga K "Piece") := G.isiB_ok (T.fact 31)
theorem rd_Piece : ClX.CRead K (He.ga K "Piece") (.type "type") := G.rdB_ok (T.fact 32)
theorem mk_Piece : Mk K (He.ga K "Piece") (a_Piece_init K) := He.mkr_ok (T.fact 33)
theorem gl_BadPiece : mg "BadPiece" = some (.ref (He.ga K "BadPiece")) := T.gl 34 "BadPiece"
theorem gl_FifthError : mg "FifthError" = some (.ref (He.ga K "FifthError")) := T.gl 35 "FifthError"
theorem su_BadPiece : G.SupC K (He.ga K "BadPiece") ["part"] "/claim/cut.py" := G.supB_ok (T.fact 36)
theorem em_BadPiece_FifthError : PySem.W.exmOne K (.ref (He.ga K "BadPiece")) (.ref (He.ga K "FifthError")) = some true := G.exmB_ok (T.fact 37)
theorem tf_law_kinds_right : G.TabF K "_law_kinds_right" (He.ga K "_law_kinds_right") := G.tabB_ok (T.fact 38)
theorem sm_Ratio_is_number : G.SMet K (He.ga K "Ratio") (.type "type") "is_number" (a_Ratio_is_number K) := G.smB_ok (T.fact 39)
theorem sm_Ratio_of : G.SMet K (He.ga K "Ratio") (.type "type") "of" (a_Ratio_of K) := G.smB_ok (T.fact 40)
theorem ow_Ratio_lt : G.OwnM K (He.ga K "Ratio") "__lt__" (a_Ratio_lt K) := G.ownB_ok (T.fact 41)
theorem ow_Ratio_le : G.OwnM K (He.ga K "Ratio") "__le__" (a_Ratio_le K) := G.ownB_ok (T.fact 42)
theorem ow_Ratio_gt : G.OwnM K (He.ga K "Ratio") "__gt__" (a_Ratio_gt K) := G.ownB_ok (T.fact 43)
theorem ow_Ratio_ge : G.OwnM K (He.ga K "Ratio") "__ge__" (a_Ratio_ge K) := G.ownB_ok (T.fact 44)
theorem sm_Piece_whole : G.SMet K (He.ga K "Piece") (.type "type") "whole" (a_Piece_whole K) := G.smB_ok (T.fact 45)
theorem na_Ratio_top : NoAttr K (He.ga K "Ratio") "top" := He.noat_ok (T.fact 46)
theorem na_Ratio_bottom : NoAttr K (He.ga K "Ratio") "bottom" := He.noat_ok (T.fact 47)
theorem na_Piece_left : NoAttr K (He.ga K "Piece") "left" := He.noat_ok (T.fact 48)
theorem na_Piece_right : NoAttr K (He.ga K "Piece") "right" := He.noat_ok (T.fact 49)
theorem fr_isinstance : mg "isinstance" = none := T.fr 50 "isinstance"
theorem fr_int : mg "int" = none := T.fr 51 "int"
theorem fr_bool : mg "bool" = none := T.fr 52 "bool"
theorem fr_abs : mg "abs" = none := T.fr 53 "abs"
theorem fr_len : mg "len" = none := T.fr 54 "len"
theorem fr_range : mg "range" = none := T.fr 55 "range"
theorem fr_list : mg "list" = none := T.fr 56 "list"
theorem fr_tuple : mg "tuple" = none := T.fr 57 "tuple"
theorem fr_repr : mg "repr" = none := T.fr 58 "repr"
theorem fr_super : mg "super" = none := T.fr 59 "super"
theorem fr_sorted : mg "sorted" = none := T.fr 60 "sorted"
theorem fr_set : mg "set" = none := T.fr 61 "set"
theorem fr_enumerate : mg "enumerate" = none := T.fr 62 "enumerate"
theorem fr_all : mg "all" = none := T.fr 63 "all"
theorem fr_ValueError : mg "ValueError" = none := T.fr 64 "ValueError"
theorem gi_MOST_NUMBER : ∃ u, mg "MOST_NUMBER" = some (.int (48) u) := G.gint_ok T 65 "MOST_NUMBER" rfl
theorem ki_Ratio_Ratio : PySem.W.kitOne K (.ref (He.ga K "Ratio")) (.ref (He.ga K "Ratio")) = some true := G.kitB_ok (T.fact 66)
theorem ki_Piece_Ratio : PySem.W.kitOne K (.ref (He.ga K "Piece")) (.ref (He.ga K "Ratio")) = some false := G.kitB_ok (T.fact 67)
theorem nf_Ratio_Ratio : PySem.W.notFirst K (He.ga K "Ratio") (.ref (He.ga K "Ratio")) = true := id (T.fact 68)
theorem ki_Ratio_Piece : PySem.W.kitOne K (.ref (He.ga K "Ratio")) (.ref (He.ga K "Piece")) = some false := G.kitB_ok (T.fact 69)
theorem ki_Piece_Piece : PySem.W.kitOne K (.ref (He.ga K "Piece")) (.ref (He.ga K "Piece")) = some true := G.kitB_ok (T.fact 70)
theorem ki_int_Ratio : PySem.W.kitOne K (.type "int") (.ref (He.ga K "Ratio")) = some false := G.kitB_ok (T.fact 71)
theorem nf_Ratio_int : PySem.W.notFirst K (He.ga K "Ratio") (.type "int") = true := id (T.fact 72)
theorem ki_int_Piece : PySem.W.kitOne K (.type "int") (.ref (He.ga K "Piece")) = some false := G.kitB_ok (T.fact 73)
theorem ki_str_Ratio : PySem.W.kitOne K (.type "str") (.ref (He.ga K "Ratio")) = some false := G.kitB_ok (T.fact 74)
theorem nf_Ratio_str : PySem.W.notFirst K (He.ga K "Ratio") (.type "str") = true := id (T.fact 75)
theorem ki_str_Piece : PySem.W.kitOne K (.type "str") (.ref (He.ga K "Piece")) = some false := G.kitB_ok (T.fact 76)
theorem ki_NoneType_Ratio : PySem.W.kitOne K (.type "NoneType") (.ref (He.ga K "Ratio")) = some false := G.kitB_ok (T.fact 77)
theorem nf_Ratio_NoneType : PySem.W.notFirst K (He.ga K "Ratio") (.type "NoneType") = true := id (T.fact 78)
theorem ki_NoneType_Piece : PySem.W.kitOne K (.type "NoneType") (.ref (He.ga K "Piece")) = some false := G.kitB_ok (T.fact 79)
theorem ki_bool_Ratio : PySem.W.kitOne K (.type "bool") (.ref (He.ga K "Ratio")) = some false := G.kitB_ok (T.fact 80)
theorem nf_Ratio_bool : PySem.W.notFirst K (He.ga K "Ratio") (.type "bool") = true := id (T.fact 81)
theorem ki_bool_Piece : PySem.W.kitOne K (.type "bool") (.ref (He.ga K "Piece")) = some false := G.kitB_ok (T.fact 82)
theorem ki_tuple_Ratio : PySem.W.kitOne K (.type "tuple") (.ref (He.ga K "Ratio")) = some false := G.kitB_ok (T.fact 83)
theorem nf_Ratio_tuple : PySem.W.notFirst K (He.ga K "Ratio") (.type "tuple") = true := id (T.fact 84)
theorem ki_tuple_Piece : PySem.W.kitOne K (.type "tuple") (.ref (He.ga K "Piece")) = some false := G.kitB_ok (T.fact 85)
theorem ki_list_Ratio : PySem.W.kitOne K (.type "list") (.ref (He.ga K "Ratio")) = some false := G.kitB_ok (T.fact 86)
theorem nf_Ratio_list : PySem.W.notFirst K (He.ga K "Ratio") (.type "list") = true := id (T.fact 87)
theorem ki_list_Piece : PySem.W.kitOne K (.type "list") (.ref (He.ga K "Piece")) = some false := G.kitB_ok (T.fact 88)
theorem ki_dict_Ratio : PySem.W.kitOne K (.type "dict") (.ref (He.ga K "Ratio")) = some false := G.kitB_ok (T.fact 89)
theorem nf_Ratio_dict : PySem.W.notFirst K (He.ga K "Ratio") (.type "dict") = true := id (T.fact 90)
theorem ki_dict_Piece : PySem.W.kitOne K (.type "dict") (.ref (He.ga K "Piece")) = some false := G.kitB_ok (T.fact 91)
theorem kb_Ratio_int : PySem.W.kitOne K (.ref (He.ga K "Ratio")) (.type "int") = some false := G.kitTB_ok (T.fact 92)
theorem kb_Piece_int : PySem.W.kitOne K (.ref (He.ga K "Piece")) (.type "int") = some false := G.kitTB_ok (T.fact 93)
theorem exv_BadPiece : G.ExvC K (He.ga K "BadPiece") := G.exvB_ok (T.fact 94)
theorem ki_BadPiece_BadPiece : PySem.W.kitOne K (.ref (He.ga K "BadPiece")) (.ref (He.ga K "BadPiece")) = some true := G.kitB_ok (T.fact 95)
theorem kb_BadPiece_ValueError : PySem.W.kitOne K (.ref (He.ga K "BadPiece")) (.type "ValueError") = some true := G.kitTB_ok (T.fact 96)
theorem nof_BadPiece_part : PySem.W.findIn K (.ref (He.ga K "BadPiece")) "part" = some none := G.noFB_ok (T.fact 97)
theorem si_Ratio : PySem.W.subIn K (.ref (He.ga K "Ratio")) (.type "int") = some false := G.noIntB_ok (T.fact 98)
theorem F_is_integer : FunD K "is_integer" "is_integer" (defArgs s_is_integer) (defBody s_is_integer) (defScope s_is_integer) [] [] (a_is_integer K) (G.fdOf K (a_is_integer K)) := T.def_ 0
theorem bi_is_integer : Binds K (G.fdOf K (a_is_integer K)) ["value"] [] := (F_is_integer T).bindsN fun _ _ _ _ _ _ us hl => match us, hl with | [_], _ => rfl
theorem F_is_between : FunD K "is_between" "is_between" (defArgs s_is_between) (defBody s_is_between) (defScope s_is_between) [] [] (a_is_between K) (G.fdOf K (a_is_between K)) := T.def_ 1
theorem bi_is_between : Binds K (G.fdOf K (a_is_between K)) ["value", "least", "most"] [] := (F_is_between T).bindsN fun _ _ _ _ _ _ us hl => match us, hl with | [_, _, _], _ => rfl
theorem F_common_divisor : FunD K "common_divisor" "common_divisor" (defArgs s_common_divisor) (defBody s_common_divisor) (defScope s_common_divisor) [] [] (a_common_divisor K) (G.fdOf K (a_common_divisor K)) := T.def_ 2
theorem bi_common_divisor : Binds K (G.fdOf K (a_common_divisor K)) ["one", "other"] [] := (F_common_divisor T).bindsN fun _ _ _ _ _ _ us hl => match us, hl with | [_, _], _ => rfl
theorem F_parts_of : FunD K "parts_of" "parts_of" (defArgs s_parts_of) (defBody s_parts_of) (defScope s_parts_of) [] [] (a_parts_of K) (G.fdOf K (a_parts_of K)) := T.def_ 3
theorem bi_parts_of : Binds K (G.fdOf K (a_parts_of K)) ["number"] [] := (F_parts_of T).bindsN fun _ _ _ _ _ _ us hl => match us, hl with | [_], _ => rfl
theorem F_need_divisor : FunD K "need_divisor" "need_divisor" (defArgs s_need_divisor) (defBody s_need_divisor) (defScope s_need_divisor) [] [] (a_need_divisor K) (G.fdOf K (a_need_divisor K)) := T.def_ 4
theorem bi_need_divisor : Binds K (G.fdOf K (a_need_divisor K)) ["number"] [] := (F_need_divisor T).bindsN fun _ _ _ _ _ _ us hl => match us, hl with | [_], _ => rfl
theorem F_Ratio_init : FunD K "__init__" "Ratio.__init__" (defArgs s_Ratio_init) (defBody s_Ratio_init) (defScope s_Ratio_init) [.int 1] [] (a_Ratio_init K) (G.fdOf K (a_Ratio_init K)) := T.def_ 5
theorem bi_Ratio_init : Binds K (G.fdOf K (a_Ratio_init K)) ["self", "top", "bottom"] [] := by
  obtain ⟨ds, hd, hb⟩ := (F_Ratio_init T).binds1 (ps := ["self", "top", "bottom"]) 3 1 (by simp) rfl fun T kV doc pm an cdv ct us its h1 h2 => match us, its, h1, h2 with | [_, _, _], [_], _, _ => ⟨_, rfl, rfl⟩
  cases hd
  exact hb
theorem bid_Ratio_init : ∃ ds, Vals [.int 1] ds ∧ Binds K (G.fdOf K (a_Ratio_init K)) ["self", "top", "bottom"] ds :=
  (F_Ratio_init T).binds1 (ps := ["self", "top", "bottom"]) 2 0 (by simp) rfl fun T kV doc pm an cdv ct us its h1 h2 => match us, its, h1, h2 with | [_, _], [_], _, _ => ⟨_, rfl, rfl⟩
theorem F_Ratio_is_number : FunD K "is_number" "Ratio.is_number" (defArgs s_Ratio_is_number) (defBody s_Ratio_is_number) (defScope s_Ratio_is_number) [] [] (a_Ratio_is_number K) (G.fdOf K (a_Ratio_is_number K)) := T.def_ 6
theorem bi_Ratio_is_number : Binds K (G.fdOf K (a_Ratio_is_number K)) ["value"] [] := (F_Ratio_is_number T).bindsN fun _ _ _ _ _ _ us hl => match us, hl with | [_], _ => rfl
theorem F_Ratio_of : FunD K "of" "Ratio.of" (defArgs s_Ratio_of) (defBody s_Ratio_of) (defScope s_Ratio_of) [] [] (a_Ratio_of K) (G.fdOf K (a_Ratio_of K)) := T.def_ 7
theorem bi_Ratio_of : Binds K (G.fdOf K (a_Ratio_of K)) ["number"] [] := (F_Ratio_of T).bindsN fun _ _ _ _ _ _ us hl => match us, hl with | [_], _ => rfl
theorem F_Ratio_lt : FunD K "__lt__" "Ratio.__lt__" (defArgs s_Ratio_lt) (defBody s_Ratio_lt) (defScope s_Ratio_lt) [] [] (a_Ratio_lt K) (G.fdOf K (a_Ratio_lt K)) := T.def_ 8
theorem bi_Ratio_lt : Binds K (G.fdOf K (a_Ratio_lt K)) ["self", "other"] [] := (F_Ratio_lt T).bindsN fun _ _ _ _ _ _ us hl => match us, hl with | [_, _], _ => rfl
theorem F_Ratio_le : FunD K "__le__" "Ratio.__le__" (defArgs s_Ratio_le) (defBody s_Ratio_le) (defScope s_Ratio_le) [] [] (a_Ratio_le K) (G.fdOf K (a_Ratio_le K)) := T.def_ 9
theorem bi_Ratio_le : Binds K (G.fdOf K (a_Ratio_le K)) ["self", "other"] [] := (F_Ratio_le T).bindsN fun _ _ _ _ _ _ us hl => match us, hl with | [_, _], _ => rfl
theorem F_Ratio_gt : FunD K "__gt__" "Ratio.__gt__" (defArgs s_Ratio_gt) (defBody s_Ratio_gt) (defScope s_Ratio_gt) [] [] (a_Ratio_gt K) (G.fdOf K (a_Ratio_gt K)) := T.def_ 10
theorem bi_Ratio_gt : Binds K (G.fdOf K (a_Ratio_gt K)) ["self", "other"] [] := (F_Ratio_gt T).bindsN fun _ _ _ _ _ _ us hl => match us, hl with | [_, _], _ => rfl
theorem F_Ratio_ge : FunD K "__ge__" "Ratio.__ge__" (defArgs s_Ratio_ge) (defBody s_Ratio_ge) (defScope s_Ratio_ge) [] [] (a_Ratio_ge K) (G.fdOf K (a_Ratio_ge K)) := T.def_ 11
theorem bi_Ratio_ge : Binds K (G.fdOf K (a_Ratio_ge K)) ["self", "other"] [] := (F_Ratio_ge T).bindsN fun _ _ _ _ _ _ us hl => match us, hl with | [_, _], _ => rfl
theorem F_Piece_init : FunD K "__init__" "Piece.__init__" (defArgs s_Piece_init) (defBody s_Piece_init) (defScope s_Piece_init) [] [] (a_Piece_init K) (G.fdOf K (a_Piece_init K)) := T.def_ 12
theorem bi_Piece_init : Binds K (G.fdOf K (a_Piece_init K)) ["self", "left", "right"] [] := (F_Piece_init T).bindsN fun _ _ _ _ _ _ us hl => match us, hl with | [_, _, _], _ => rfl
theorem F_Piece_whole : FunD K "whole" "Piece.whole" (defArgs s_Piece_whole) (defBody s_Piece_whole) (defScope s_Piece_whole) [] [] (a_Piece_whole K) (G.fdOf K (a_Piece_whole K)) := T.def_ 13
theorem bi_Piece_whole : Binds K (G.fdOf K (a_Piece_whole K)) [] [] := (F_Piece_whole T).bindsN fun _ _ _ _ _ _ us hl => match us, hl with | [], _ => rfl
theorem F_weights : FunD K "weights" "weights" (defArgs s_weights) (defBody s_weights) (defScope s_weights) [] [] (a_weights K) (G.fdOf K (a_weights K)) := T.def_ 14
theorem bi_weights : Binds K (G.fdOf K (a_weights K)) ["piece", "low", "high"] [] := (F_weights T).bindsN fun _ _ _ _ _ _ us hl => match us, hl with | [_, _, _], _ => rfl
theorem F_are_numbers : FunD K "are_numbers" "are_numbers" (defArgs s_are_numbers) (defBody s_are_numbers) (defScope s_are_numbers) [] [] (a_are_numbers K) (G.fdOf K (a_are_numbers K)) := T.def_ 15
theorem bi_are_numbers : Binds K (G.fdOf K (a_are_numbers K)) ["values"] [] := (F_are_numbers T).bindsN fun _ _ _ _ _ _ us hl => match us, hl with | [_], _ => rfl
theorem F_is_around : FunD K "is_around" "is_around" (defArgs s_is_around) (defBody s_is_around) (defScope s_is_around) [] [] (a_is_around K) (G.fdOf K (a_is_around K)) := T.def_ 16
theorem bi_is_around : Binds K (G.fdOf K (a_is_around K)) ["piece", "order"] [] := (F_is_around T).bindsN fun _ _ _ _ _ _ us hl => match us, hl with | [_, _], _ => rfl
theorem F_shows_ring : FunD K "shows_ring" "shows_ring" (defArgs s_shows_ring) (defBody s_shows_ring) (defScope s_shows_ring) [] [] (a_shows_ring K) (G.fdOf K (a_shows_ring K)) := T.def_ 17
theorem bi_shows_ring : Binds K (G.fdOf K (a_shows_ring K)) ["piece", "numbers", "order"] [] := (F_shows_ring T).bindsN fun _ _ _ _ _ _ us hl => match us, hl with | [_, _, _], _ => rfl
theorem F_law_pen : FunD K "_law_pen" "_law_pen" (defArgs s_law_pen) (defBody s_law_pen) (defScope s_law_pen) [] [] (a_law_pen K) (G.fdOf K (a_law_pen K)) := T.def_ 18
theorem bi_law_pen : Binds K (G.fdOf K (a_law_pen K)) ["_law_script"] [] := (F_law_pen T).bindsN fun _ _ _ _ _ _ us hl => match us, hl with | [_], _ => rfl
theorem F_law_draw : FunD K "_law_draw" "_law_draw" (defArgs s_law_draw) (defBody s_law_draw) (defScope s_law_draw) [] [] (a_law_draw K) (G.fdOf K (a_law_draw K)) := T.def_ 19
theorem bi_law_draw : Binds K (G.fdOf K (a_law_draw K)) ["_law_pen_here", "_law_many"] [] := (F_law_draw T).bindsN fun _ _ _ _ _ _ us hl => match us, hl with | [_, _], _ => rfl
theorem F_law_pick : FunD K "_law_pick" "_law_pick" (defArgs s_law_pick) (defBody s_law_pick) (defScope s_law_pick) [] [] (a_law_pick K) (G.fdOf K (a_law_pick K)) := T.def_ 20
theorem bi_law_pick : Binds K (G.fdOf K (a_law_pick K)) ["_law_pen_here", "_law_some"] [] := (F_law_pick T).bindsN fun _ _ _ _ _ _ us hl => match us, hl with | [_, _], _ => rfl
theorem F_law_walk : FunD K "_law_walk" "_law_walk" (defArgs s_law_walk) (defBody s_law_walk) (defScope s_law_walk) [] [] (a_law_walk K) (G.fdOf K (a_law_walk K)) := T.def_ 21
theorem bi_law_walk : Binds K (G.fdOf K (a_law_walk K)) ["_law_pen_here", "_law_most"] [] := (F_law_walk T).bindsN fun _ _ _ _ _ _ us hl => match us, hl with | [_, _], _ => rfl
theorem F_law_piece : FunD K "_law_piece" "_law_piece" (defArgs s_law_piece) (defBody s_law_piece) (defScope s_law_piece) [] [] (a_law_piece K) (G.fdOf K (a_law_piece K)) := T.def_ 22
theorem bi_law_piece : Binds K (G.fdOf K (a_law_piece K)) ["_law_ends"] [] := (F_law_piece T).bindsN fun _ _ _ _ _ _ us hl => match us, hl with | [_], _ => rfl
theorem F_law_pair_at : FunD K "_law_pair_at" "_law_pair_at" (defArgs s_law_pair_at) (defBody s_law_pair_at) (defScope s_law_pair_at) [] [] (a_law_pair_at K) (G.fdOf K (a_law_pair_at K)) := T.def_ 23
theorem bi_law_pair_at : Binds K (G.fdOf K (a_law_pair_at K)) ["_law_some", "_law_bottom"] [] := (F_law_pair_at T).bindsN fun _ _ _ _ _ _ us hl => match us, hl with | [_, _], _ => rfl
theorem F_law_meeting : FunD K "_law_meeting" "_law_meeting" (defArgs s_law_meeting) (defBody s_law_meeting) (defScope s_law_meeting) [] [] (a_law_meeting K) (G.fdOf K (a_law_meeting K)) := T.def_ 24
theorem bi_law_meeting : Binds K (G.fdOf K (a_law_meeting K)) ["_law_ends", "_law_some"] [] := (F_law_meeting T).bindsN fun _ _ _ _ _ _ us hl => match us, hl with | [_, _], _ => rfl
theorem F_law_spot : FunD K "_law_spot" "_law_spot" (defArgs s_law_spot) (defBody s_law_spot) (defScope s_law_spot) [] [] (a_law_spot K) (G.fdOf K (a_law_spot K)) := T.def_ 25
theorem bi_law_spot : Binds K (G.fdOf K (a_law_spot K)) ["_law_ends", "_law_u", "_law_v"] [] := (F_law_spot T).bindsN fun _ _ _ _ _ _ us hl => match us, hl with | [_, _, _], _ => rfl
theorem F_law_order : FunD K "_law_order" "_law_order" (defArgs s_law_order) (defBody s_law_order) (defScope s_law_order) [] [] (a_law_order K) (G.fdOf K (a_law_order K)) := T.def_ 26
theorem bi_law_order : Binds K (G.fdOf K (a_law_order K)) ["_law_ends", "_law_some", "_law_u", "_law_v"] [] := (F_law_order T).bindsN fun _ _ _ _ _ _ us hl => match us, hl with | [_, _, _, _], _ => rfl
theorem F_law_bent_order : FunD K "_law_bent_order" "_law_bent_order" (defArgs s_law_bent_order) (defBody s_law_bent_order) (defScope s_law_bent_order) [] [] (a_law_bent_order K) (G.fdOf K (a_law_bent_order K)) := T.def_ 27
theorem bi_law_bent_order : Binds K (G.fdOf K (a_law_bent_order K)) ["_law_pen_here", "_law_order_here", "_law_some"] [] := (F_law_bent_order T).bindsN fun _ _ _ _ _ _ us hl => match us, hl with | [_, _, _], _ => rfl
theorem F_law_heard : FunD K "_law_heard" "_law_heard" (defArgs s_law_heard) (defBody s_law_heard) (defScope s_law_heard) [] [] (a_law_heard K) (G.fdOf K (a_law_heard K)) := T.def_ 28
theorem bi_law_heard : Binds K (G.fdOf K (a_law_heard K)) ["_law_ask"] [] := (F_law_heard T).bindsN fun _ _ _ _ _ _ us hl => match us, hl with | [_], _ => rfl
theorem F_law_due : FunD K "_law_due" "_law_due" (defArgs s_law_due) (defBody s_law_due) (defScope s_law_due) [] [] (a_law_due K) (G.fdOf K (a_law_due K)) := T.def_ 29
theorem bi_law_due : Binds K (G.fdOf K (a_law_due K)) ["_law_ends", "_law_some", "_law_value"] [] := (F_law_due T).bindsN fun _ _ _ _ _ _ us hl => match us, hl with | [_, _, _], _ => rfl
theorem F_law_numbers : FunD K "_law_numbers" "_law_numbers" (defArgs s_law_numbers) (defBody s_law_numbers) (defScope s_law_numbers) [] [] (a_law_numbers K) (G.fdOf K (a_law_numbers K)) := T.def_ 30
theorem bi_law_numbers : Binds K (G.fdOf K (a_law_numbers K)) ["_law_pen_here", "_law_far"] [] := (F_law_numbers T).bindsN fun _ _ _ _ _ _ us hl => match us, hl with | [_, _], _ => rfl
theorem F_law_kinds_right : FunD K "_law_kinds_right" "_law_kinds_right" (defArgs s_law_kinds_right) (defBody s_law_kinds_right) (defScope s_law_kinds_right) [] [] (a_law_kinds_right K) (G.fdOf K (a_law_kinds_right K)) := T.def_ 31
theorem bi_law_kinds_right : Binds K (G.fdOf K (a_law_kinds_right K)) ["_law_pen_here", "_law_piece_here", "_law_order_here"] [] := (F_law_kinds_right T).bindsN fun _ _ _ _ _ _ us hl => match us, hl with | [_, _, _], _ => rfl
theorem F_law : FunD K "law" "law" (defArgs s_law) (defBody s_law) (defScope s_law) [] [] (a_law K) (G.fdOf K (a_law K)) := T.def_ 32
theorem bi_law : Binds K (G.fdOf K (a_law K)) ["_law_script"] [] := (F_law T).bindsN fun _ _ _ _ _ _ us hl => match us, hl with | [_], _ => rfl
end
theorem sc_is_integer : FnScope ["value"] ["value"] (defScope s_is_integer) := ⟨rfl, rfl, rfl, by decide +kernel, rfl, by decide +kernel, by decide +kernel⟩
theorem sc_is_between : FnScope ["value", "least", "most"] ["value", "least", "most"] (defScope s_is_between) := ⟨rfl, rfl, rfl, by decide +kernel, rfl, by decide +kernel, by decide +kernel⟩
theorem sc_common_divisor : FnScope ["one", "other"] ["one", "other"] (defScope s_common_divisor) := ⟨rfl, rfl, rfl, by decide +kernel, rfl, by decide +kernel, by decide +kernel⟩
theorem sc_parts_of : FnScope ["number"] ["number"] (defScope s_parts_of) := ⟨rfl, rfl, rfl, by decide +kernel, rfl, by decide +kernel, by decide +kernel⟩
theorem sc_need_divisor : FnScope ["number"] ["number"] (defScope s_need_divisor) := ⟨rfl, rfl, rfl, by decide +kernel, rfl, by decide +kernel, by decide +kernel⟩
theorem sc_Ratio_init : FnScope ["self", "top", "bottom", "shared"] ["self", "top", "bottom"] (defScope s_Ratio_init) := ⟨rfl, rfl, rfl, by decide +kernel, rfl, by decide +kernel, by decide +kernel⟩
theorem sc_Ratio_is_number : FnScope ["value"] ["value"] (defScope s_Ratio_is_number) := ⟨rfl, rfl, rfl, by decide +kernel, rfl, by decide +kernel, by decide +kernel⟩
theorem sc_Ratio_of : FnScope ["number", "top", "bottom"] ["number"] (defScope s_Ratio_of) := ⟨rfl, rfl, rfl, by decide +kernel, rfl, by decide +kernel, by decide +kernel⟩
theorem sc_Ratio_lt : FnScope ["self", "other", "top", "bottom"] ["self", "other"] (defScope s_Ratio_lt) := ⟨rfl, rfl, rfl, by decide +kernel, rfl, by decide +kernel, by decide +kernel⟩
theorem sc_Ratio_le : FnScope ["self", "other", "top", "bottom"] ["self", "other"] (defScope s_Ratio_le) := ⟨rfl, rfl, rfl, by decide +kernel, rfl, by decide +kernel, by decide +kernel⟩
theorem sc_Ratio_gt : FnScope ["self", "other", "top", "bottom"] ["self", "other"] (defScope s_Ratio_gt) := ⟨rfl, rfl, rfl, by decide +kernel, rfl, by decide +kernel, by decide +kernel⟩
theorem sc_Ratio_ge : FnScope ["self", "other", "top", "bottom"] ["self", "other"] (defScope s_Ratio_ge) := ⟨rfl, rfl, rfl, by decide +kernel, rfl, by decide +kernel, by decide +kernel⟩
theorem sc_Piece_init : FnScope ["self", "left", "right"] ["self", "left", "right"] (defScope s_Piece_init) := ⟨rfl, rfl, rfl, by decide +kernel, rfl, by decide +kernel, by decide +kernel⟩
theorem sc_Piece_whole : FnScope [] [] (defScope s_Piece_whole) := ⟨rfl, rfl, rfl, by decide +kernel, rfl, by decide +kernel, by decide +kernel⟩
theorem sc_weights : FnScope ["piece", "low", "high", "a", "b", "c", "d", "more", "whole"] ["piece", "low", "high"] (defScope s_weights) := ⟨rfl, rfl, rfl, by decide +kernel, rfl, by decide +kernel, by decide +kernel⟩
theorem sc_are_numbers : FnScope ["values", "value"] ["values"] (defScope s_are_numbers) := ⟨rfl, rfl, rfl, by decide +kernel, rfl, by decide +kernel, by decide +kernel⟩
theorem sc_is_around : FnScope ["piece", "order", "lefts", "rights", "at", "low", "left", "right", "whole"] ["piece", "order"] (defScope s_is_around) := ⟨rfl, rfl, rfl, by decide +kernel, rfl, by decide +kernel, by decide +kernel⟩
theorem sc_shows_ring : FnScope ["piece", "numbers", "order", "wanted", "number"] ["piece", "numbers", "order"] (defScope s_shows_ring) := ⟨rfl, rfl, rfl, by decide +kernel, rfl, by decide +kernel, by decide +kernel⟩
theorem sc_law_pen : FnScope ["_law_script"] ["_law_script"] (defScope s_law_pen) := ⟨rfl, rfl, rfl, by decide +kernel, rfl, by decide +kernel, by decide +kernel⟩
theorem sc_law_draw : FnScope ["_law_pen_here", "_law_many", "_law_digit", "_law_used", "_law_cell", "_law_great", "_law_mixed"] ["_law_pen_here", "_law_many"] (defScope s_law_draw) := ⟨rfl, rfl, rfl, by decide +kernel, rfl, by decide +kernel, by decide +kernel⟩
theorem sc_law_pick : FnScope ["_law_pen_here", "_law_some"] ["_law_pen_here", "_law_some"] (defScope s_law_pick) := ⟨rfl, rfl, rfl, by decide +kernel, rfl, by decide +kernel, by decide +kernel⟩
theorem sc_law_walk : FnScope ["_law_pen_here", "_law_most", "_law_a", "_law_b", "_law_c", "_law_d", "_law_turn"] ["_law_pen_here", "_law_most"] (defScope s_law_walk) := ⟨rfl, rfl, rfl, by decide +kernel, rfl, by decide +kernel, by decide +kernel⟩
theorem sc_law_piece : FnScope ["_law_ends"] ["_law_ends"] (defScope s_law_piece) := ⟨rfl, rfl, rfl, by decide +kernel, rfl, by decide +kernel, by decide +kernel⟩
theorem sc_law_pair_at : FnScope ["_law_some", "_law_bottom", "_law_low", "_law_highs", "_law_high"] ["_law_some", "_law_bottom"] (defScope s_law_pair_at) := ⟨rfl, rfl, rfl, by decide +kernel, rfl, by decide +kernel, by decide +kernel⟩
theorem sc_law_meeting : FnScope ["_law_ends", "_law_some", "_law_a", "_law_b", "_law_c", "_law_d", "_law_bottom", "_law_top", "_law_pair"] ["_law_ends", "_law_some"] (defScope s_law_meeting) := ⟨rfl, rfl, rfl, by decide +kernel, rfl, by decide +kernel, by decide +kernel⟩
theorem sc_law_spot : FnScope ["_law_ends", "_law_u", "_law_v"] ["_law_ends", "_law_u", "_law_v"] (defScope s_law_spot) := ⟨rfl, rfl, rfl, by decide +kernel, rfl, by decide +kernel, by decide +kernel⟩
theorem sc_law_order : FnScope ["_law_ends", "_law_some", "_law_u", "_law_v", "_law_top", "_law_bottom", "_law_at", "_law_number", "_law_key"] ["_law_ends", "_law_some", "_law_u", "_law_v"] (defScope s_law_order) := ⟨rfl, rfl, rfl, by decide +kernel, rfl, by decide +kernel, by decide +kernel⟩
theorem sc_law_bent_order : FnScope ["_law_pen_here", "_law_order_here", "_law_some", "_law_at", "_law_way", "_law_turned"] ["_law_pen_here", "_law_order_here", "_law_some"] (defScope s_law_bent_order) := ⟨rfl, rfl, rfl, by decide +kernel, rfl, by decide +kernel, by decide +kernel⟩
theorem sc_law_heard : FnScope ["_law_ask", "_law_caught", "error", "_law_found"] ["_law_ask"] (defScope s_law_heard) := ⟨rfl, rfl, rfl, by decide +kernel, rfl, by decide +kernel, by decide +kernel⟩
theorem sc_law_due : FnScope ["_law_ends", "_law_some", "_law_value", "_law_row", "_law_number"] ["_law_ends", "_law_some", "_law_value"] (defScope s_law_due) := ⟨rfl, rfl, rfl, by decide +kernel, rfl, by decide +kernel, by decide +kernel⟩
theorem sc_law_numbers : FnScope ["_law_pen_here", "_law_far", "_law_found", "_law_k"] ["_law_pen_here", "_law_far"] (defScope s_law_numbers) := ⟨rfl, rfl, rfl, by decide +kernel, rfl, by decide +kernel, by decide +kernel⟩
theorem sc_law_kinds_right : FnScope ["_law_pen_here", "_law_piece_here", "_law_order_here", "_law_wrong", "_law_odd"] ["_law_pen_here", "_law_piece_here", "_law_order_here"] (defScope s_law_kinds_right) := ⟨rfl, rfl, rfl, by decide +kernel, rfl, by decide +kernel, by decide +kernel⟩
theorem sc_law : FnScope ["_law_script", "_law_pen_here", "_law_turn", "_law_ends", "_law_piece_here", "_law_some", "_law_row", "_law_number", "_law_order_here", "_law_lent", "_law_values", "_law_k", "_law_value", "_law_due_here", "_law_half", "_law_seen"] ["_law_script"] (defScope s_law) := ⟨rfl, rfl, rfl, by decide +kernel, rfl, by decide +kernel, by decide +kernel⟩
end Lw

/-! ### the head -/
namespace Lw
open PySem PySem.Spec PyProof.Rows L2
abbrev R : PySem.W.OpenRow := PySem.W.OpenLaw.row PySem.Challenge.rw_anyfifth_k92_rings_looked_at
def names : List Str := (("Ratio" : Str) :: ("Piece" : Str) :: ("BadPiece" : Str) :: ("FifthError" : Str) :: ("is_integer" : Str) :: ("is_between" : Str) :: ("common_divisor" : Str) :: ("parts_of" : Str) :: ("need_divisor" : Str) :: ("weights" : Str) :: ("are_numbers" : Str) :: ("is_around" : Str) :: ("shows_ring" : Str) :: ("_law_pen" : Str) :: ("_law_draw" : Str) :: ("_law_pick" : Str) :: ("_law_walk" : Str) :: ("_law_piece" : Str) :: ("_law_pair_at" : Str) :: ("_law_meeting" : Str) :: ("_law_spot" : Str) :: ("_law_order" : Str) :: ("_law_bent_order" : Str) :: ("_law_heard" : Str) :: ("_law_due" : Str) :: ("_law_numbers" : Str) :: ("_law_kinds_right" : Str) :: ("law" : Str) :: [])
abbrev hk : PySem.W.Hook := G.hookN names 5 exs fns
def ob (s : PySem.W.SharedT) : He.AlD := G.obsNG names 5 exs fns (HandSHeadRun.getT s)
theorem ob_eq (s : PySem.W.SharedT) : ob s = hk.obs s.abs := G.obsNG_eq (HandSHeadRun.getT_eq s)
theorem run (w : World) : HandSHeadRun.RunEq R (PySem.W.view R.prog [47, 48]) hk ob 20000 (("_wall" : Str) :: ("is_integer" : Str) :: ("is_between" : Str) :: ("FifthError" : Str) :: ("BadInput" : Str) :: ("Refused" : Str) :: ("BadRatio" : Str) :: ("BadFifth" : Str) :: ("BadPiece" : Str) :: ("BadText" : Str) :: ("NoDivisor" : Str) :: ("FIGURES" : Str) :: ("common_divisor" : Str) :: ("figures_in" : Str) :: ("integer_in" : Str) :: ("MOST_FIGURES" : Str) :: ("parts_of" : Str) :: ("need_divisor" : Str) :: ("Ratio" : Str) :: ("end_in" : Str) :: ("Piece" : Str) :: ("MOST_NUMBER" : Str) :: ("weights" : Str) :: ("are_numbers" : Str) :: ("is_around" : Str) :: ("shows_ring" : Str) :: ("_law_pen" : Str) :: ("_law_draw" : Str) :: ("_law_pick" : Str) :: ("_law_walk" : Str) :: ("_law_piece" : Str) :: ("_law_pair_at" : Str) :: ("_law_meeting" : Str) :: ("_law_spot" : Str) :: ("_law_order" : Str) :: ("_law_bent_order" : Str) :: ("_law_heard" : Str) :: ("_law_due" : Str) :: ("_law_numbers" : Str) :: []) w := by
  intro os
  kernel_rfl
end Lw

namespace Lw
open PySem PySem.Spec PyProof.Rows L2
section
variable {P : Program} {w : World} {K : PySem.W.Frag} {mg : Str → Option Value} {base : Heap}
/-! ### what stands in the heap -/
/-- a Ratio in lowest terms -/
structure IsR (K : PySem.W.Frag) (H : Hp) (a : Addr) (t b : Int) : Prop where
  at_ : ∃ dx, H a = some (.ins (He.ga K "Ratio") dx [("top", .int t), ("bottom", .int b)])
  pos : 0 < b
  cop : Int.gcd t b = 1
  bt : G.Bd 4000 t
  bb : G.Bd 4000 b
def Num (K : PySem.W.Frag) (H : Hp) (v : V) (t b : Int) : Prop := (v = .int t ∧ b = 1 ∧ G.Bd 4000 t) ∨ ∃ a, v = .ref a ∧ IsR K H a t b
/-! ### checks, figures -/
def sp_is_integer : Sp := fun vs H Q _ => ∃ i, vs = [.int i] ∧ Q (.bl true) H
theorem ok_is_integer (T : Tx K mg) : G.FnG P w K mg base CX0 1 (a_is_integer K) (G.fdOf K (a_is_integer K)) ["value"] sp_is_integer := by
  refine G.ok_of (F_is_integer T) sc_is_integer (fun vs H Q E h => ?_) (fun cdv A outer s H vs Q E hr h => ?_)
  · obtain ⟨i, rfl, _⟩ := h
    rfl
  · obtain ⟨i, rfl, q⟩ := h
    refine ⟨_, (pss_one (ps_ret (pe_and (pe_callB G.call_isiG (by rfl) (fr_isinstance T) boot_isinstance (pa_cons (pv 0) (pa_cons (G.pe_ty (by rfl) (fr_int T) boot_int) pa_nil))) (pe_one (pe_not (pe_callB G.call_isiG (by rfl) (fr_isinstance T) boot_isinstance (pa_cons (pv 0) (pa_cons (G.pe_ty (by rfl) (fr_bool T) boot_bool) pa_nil)))))))), ?_⟩
    walk_at "start"
    walk_at "go"
    exact q
def sp_common_divisor : Sp := fun vs H Q _ => ∃ i j, vs = [.int i, .int j] ∧ Q (.int ((Int.gcd i j : Nat) : Int)) H
theorem ok_common_divisor (T : Tx K mg) : G.FnG P w K mg base CX0 1 (a_common_divisor K) (G.fdOf K (a_common_divisor K)) ["one", "other"] sp_common_divisor := by
  refine G.ok_of (F_common_divisor T) sc_common_divisor (fun vs H Q E h => ?_) (fun cdv A outer s H vs Q E hr h => ?_)
  · obtain ⟨i, j, rfl, _⟩ := h
    rfl
  · obtain ⟨i, j, rfl, q⟩ := h
    refine ⟨_, (pss_cons (ps_par (i := 0) (j := 1) (by rfl) sc_common_divisor.nd rfl rfl (by decide) rfl rfl (pa_cons (pe_callB G.call_absG (by rfl) (fr_abs T) boot_abs (pa_cons (pv 0) pa_nil)) (pa_cons (pe_callB G.call_absG (by rfl) (fr_abs T) boot_abs (pa_cons (pv 1) pa_nil)) pa_nil)) (by rfl))
    (pss_cons (ps_while PassesOwn.never (pt_cmpR (G.op_neG hr.units) (pv 1) pe_int (nomark _)) (pss_one (ps_par (i := 0) (j := 1) (by rfl) sc_common_divisor.nd rfl rfl (by decide) rfl rfl (pa_cons (pv 1) (pa_cons (pe_op G.op_modG (pv 0) (pv 1)) pa_nil)) (by rfl))))
    (pss_one (ps_ret (pv 0))))), ?_⟩
    walk_at "start"
    walk_at "go"
    refine G.st_while (fun m σ H' => H' = H ∧ ∃ a : Nat, σ = [some (.int (a : Int)), some (.int (m : Int))] ∧ Nat.gcd a m = Int.gcd i j) j.natAbs ⟨rfl, _, rfl, rfl⟩ ?_
    rintro m σ H' ⟨rfl, a, rfl, e⟩
    walk_at "gob"
    · refine ⟨a % m, Nat.mod_lt _ (by omega), rfl, m, by simp, ?_⟩
      rw [← e, Nat.gcd_comm a m, Nat.gcd_rec m a, Nat.gcd_comm]
    · rename_i hc
      have : m = 0 := by omega
      subst this
      rw [← e, Nat.gcd_zero_right] at q
      exact q
def sp_parts_of (K : PySem.W.Frag) : Sp := fun vs H Q _ => ∃ v t b, vs = [v] ∧ Num K H v t b ∧ ∀ p H', H p = none → G.Kp H H' → H' p = some (.tup [.int t, .int b]) → Q (.ref p) H'
end
end Lw

namespace Lw
open PySem PySem.Spec PyProof.Rows L2
section
variable {P : Program} {w : World} {K : PySem.W.Frag} {mg : Str → Option Value} {base : Heap} {H H' : Hp} {Q : VK} {E : XK} {a p : Addr} {t b n d i j : Int} {v : V}
theorem lk1 {x y : V} : List.lookup ("top" : Str) ([("top", x), ("bottom", y)] : List (Str × V)) = some x := by simp [List.lookup]
theorem lk2 {x y : V} : List.lookup ("bottom" : Str) ([("top", x), ("bottom", y)] : List (Str × V)) = some y := by
  have e : (("bottom" : Str) == "top") = false := by decide +kernel
  simp [List.lookup, e]
theorem IsR.kp (k : G.Kp H H') (h : IsR K H a t b) : IsR K H' a t b := ⟨let ⟨dx, e⟩ := h.at_; ⟨dx, k _ _ e⟩, h.pos, h.cop, h.bt, h.bb⟩
theorem IsR.md (k : G.Md p H H') (h : IsR K H a t b) : IsR K H' a t b := ⟨let ⟨dx, e⟩ := h.at_; ⟨dx, k.ins e⟩, h.pos, h.cop, h.bt, h.bb⟩
theorem Num.kp (k : G.Kp H H') (h : Num K H v t b) : Num K H' v t b := h.elim .inl fun ⟨a, e, r⟩ => .inr ⟨a, e, r.kp k⟩
theorem Num.md (k : G.Md p H H') (h : Num K H v t b) : Num K H' v t b := h.elim .inl fun ⟨a, e, r⟩ => .inr ⟨a, e, r.md k⟩
theorem Num.of_int (h : G.Bd 4000 t) : Num K H (.int t) t 1 := .inl ⟨rfl, rfl, h⟩
theorem Num.of_r (h : IsR K H a t b) : Num K H (.ref a) t b := .inr ⟨a, rfl, h⟩
theorem Num.pos (h : Num K H v t b) : 0 < b := h.elim (fun e => by rw [e.2.1]; decide) fun ⟨_, _, r⟩ => r.pos
theorem Num.cop (h : Num K H v t b) : Int.gcd t b = 1 := h.elim (fun e => by rw [e.2.1]; simp) fun ⟨_, _, r⟩ => r.cop
theorem Num.bt (h : Num K H v t b) : G.Bd 4000 t := h.elim (fun e => e.2.2) fun ⟨_, _, r⟩ => r.bt
theorem Num.bb (h : Num K H v t b) : G.Bd 4000 b := h.elim (fun e => by rw [e.2.1]; exact (G.Bd.lit 1).mono (by decide)) fun ⟨_, _, r⟩ => r.bb
theorem IsR.ty (T : Tx K mg) (h : IsR K H a t b) : TyX K H (.ref a) (.ref (He.ga K "Ratio")) := let ⟨_, e⟩ := h.at_; .base (.ins e (cl_Ratio T) (is_Ratio T).ha (is_Ratio T).hn (is_Ratio T).ht (is_Ratio T).hm)
theorem isi_iR (T : Tx K mg) (q : Q (.bl false) H) : G.rIsiG K [.int i, .ref (He.ga K "Ratio")] H Q := G.isi_cl (.base (.int _)) (ki_int_Ratio T) q
theorem isi_R (T : Tx K mg) (h : IsR K H a t b) (q : Q (.bl true) H) : G.rIsiG K [.ref a, .ref (He.ga K "Ratio")] H Q := G.isi_cl (h.ty T) (ki_Ratio_Ratio T) q
theorem fld_top (T : Tx K mg) (h : IsR K H a t b) (q : Q (.int t) H) : G.FldK K "top" (.ref a) H Q := let ⟨_, e⟩ := h.at_; G.st_fldK e (cl_Ratio T) (na_Ratio_top T) lk1 q
theorem fld_bottom (T : Tx K mg) (h : IsR K H a t b) (q : Q (.int b) H) : G.FldK K "bottom" (.ref a) H Q := let ⟨_, e⟩ := h.at_; G.st_fldK e (cl_Ratio T) (na_Ratio_bottom T) lk2 q
theorem is_integer_i (q : Q (.bl true) H) : sp_is_integer [.int i] H Q E := ⟨i, rfl, q⟩
theorem common_divisor_i (q : Q (.int ((Int.gcd i j : Nat) : Int)) H) : sp_common_divisor [.int i, .int j] H Q E := ⟨i, j, rfl, q⟩
theorem parts_of_n (h : Num K H v t b) (q : ∀ p H', H p = none → G.Kp H H' → H' p = some (.tup [.int t, .int b]) → Q (.ref p) H') : sp_parts_of K [v] H Q E := ⟨v, t, b, rfl, h, q⟩
theorem parts_of_i (h : G.Bd 4000 i) (q : ∀ p H', H p = none → G.Kp H H' → H' p = some (.tup [.int i, .int 1]) → Q (.ref p) H') : sp_parts_of K [.int i] H Q E := parts_of_n (.of_int h) q
theorem parts_of_R (h : IsR K H a t b) (q : ∀ p H', H p = none → G.Kp H H' → H' p = some (.tup [.int t, .int b]) → Q (.ref p) H') : sp_parts_of K [.ref a] H Q E := parts_of_n (.of_r h) q
end
end Lw

-- Ratio: facts, fields
local macro_rules | `(tactic| walk_at "hp") => `(tactic| first
  | (refine Lw.IsR.kp (by assumption) ?_; walk_at "hp")
  | (refine Lw.IsR.md (by assumption) ?_; walk_at "hp")
  | (refine Lw.Num.kp (by assumption) ?_; walk_at "hp")
  | (refine Lw.Num.md (by assumption) ?_; walk_at "hp")
  | (refine Lw.Num.of_r ?_; walk_at "hp"))
local macro_rules | `(tactic| walk_at "gx") => `(tactic| first
  | ((with_reducible refine Lw.isi_iR (by assumption) ?_))
  | ((with_reducible refine Lw.isi_R (t := ?z0) (b := ?z1) (by assumption) ?h ?_); (case h => walk_at "hp"))
  | ((with_reducible refine Lw.fld_top (t := ?z0) (b := ?z1) (by assumption) ?h ?_); (case h => walk_at "hp"))
  | ((with_reducible refine Lw.fld_bottom (t := ?z0) (b := ?z1) (by assumption) ?h ?_); (case h => walk_at "hp"))
  | with_reducible refine Lw.is_integer_i ?_
  | with_reducible refine Lw.common_divisor_i ?_
  | ((with_reducible refine Lw.parts_of_i ?h ?_); (case h => walk_at "bdw"); intro _ _ _ _ _)
  | ((with_reducible refine Lw.parts_of_R (t := ?z0) (b := ?z1) ?h ?_); (case h => walk_at "hp"); intro _ _ _ _ _)
  | ((with_reducible refine Lw.parts_of_n (t := ?z0) (b := ?z1) ?h ?_); (case h => walk_at "hp"); intro _ _ _ _ _))

namespace Lw
open PySem PySem.Spec PyProof.Rows L2
section
variable {P : Program} {w : World} {K : PySem.W.Frag} {mg : Str → Option Value} {base : Heap}
theorem ok_parts_of (T : Tx K mg) : G.FnG P w K mg base CX0 1 (a_parts_of K) (G.fdOf K (a_parts_of K)) ["number"] (sp_parts_of K) := by
  refine G.ok_of (F_parts_of T) sc_parts_of (fun vs H Q E h => ?_) (fun cdv A outer s H vs Q E hr h => ?_)
  · obtain ⟨v, t, b, rfl, _⟩ := h
    rfl
  · obtain ⟨v, t, b, rfl, hv, q⟩ := h
    refine ⟨_, (pss_one (ps_ret (pe_ifExp (pt_val (pe_callB G.call_isiG (by rfl) (fr_isinstance T) boot_isinstance (pa_cons (pv 0) (pa_cons (G.pe_cl rfl (gl_Ratio T)) pa_nil)))) (pe_tup (pa_cons (pe_fld (pv 0) rfl) (pa_cons (pe_fld (pv 0) rfl) pa_nil))) (pe_tup (pa_cons (pv 0) (pa_cons pe_int pa_nil)))))), ?_⟩
    walk_at "start"
    rcases hv with ⟨rfl, rfl, _⟩ | ⟨a, rfl, ha⟩
    · walk_at "gob"
      exact q _ _ (by assumption) (by assumption) (by assumption)
    · walk_at "gob"
      exact q _ _ (by assumption) (by assumption) (by assumption)
def sp_need_divisor : Sp := fun vs H Q _ => ∃ i, vs = [.int i] ∧ i ≠ 0 ∧ Q .non H
theorem ok_need_divisor (T : Tx K mg) : G.FnG P w K mg base CX0 1 (a_need_divisor K) (G.fdOf K (a_need_divisor K)) ["number"] sp_need_divisor := by
  refine G.ok_of (F_need_divisor T) sc_need_divisor (fun vs H Q E h => ?_) (fun cdv A outer s H vs Q E hr h => ?_)
  · obtain ⟨i, rfl, _⟩ := h
    rfl
  · obtain ⟨i, rfl, hi, q⟩ := h
    refine ⟨_, (pss_one (ps_if (pt_cmpR (G.op_eqG hr.units) (pv 0) pe_int (nomark _)) (pss_one ps_never) pss_nil)), ?_⟩
    walk_at "start"
    walk_at "gob"
    exact q
theorem need_divisor_i {H : Hp} {Q : VK} {E : XK} {i : Int} (h : i ≠ 0) (q : Q .non H) : sp_need_divisor [.int i] H Q E := ⟨i, rfl, h, q⟩
/-- t / b in lowest terms is n / d -/
def Low (t b n d : Int) : Prop := 0 < d ∧ Int.gcd n d = 1 ∧ ∃ k, t = n * k ∧ b = d * k
theorem low_g {t b g : Int} (hg : 0 < g) (e : g = ((Int.gcd t b : Nat) : Int)) (hb : b ≠ 0) : ∃ c d, t = g * c ∧ b = g * d ∧ t / g = c ∧ b / g = d ∧ Int.gcd c d = 1 := by
  obtain ⟨c, hc⟩ := Int.gcd_dvd_left t b
  obtain ⟨d, hd⟩ := Int.gcd_dvd_right t b
  rw [← e] at hc hd
  refine ⟨c, d, hc, hd, Int.ediv_eq_of_eq_mul_right (by omega) hc, Int.ediv_eq_of_eq_mul_right (by omega) hd, ?_⟩
  have z : Int.gcd t b = g.natAbs * Int.gcd c d := by
    conv => lhs; rw [hc, hd]
    rw [Int.gcd_mul_left]
  have g0 : 0 < g.natAbs := by omega
  have : g.natAbs * 1 = g.natAbs * Int.gcd c d := by omega
  exact (Nat.eq_of_mul_eq_mul_left g0 this).symm
theorem gcd_pos' {t b : Int} (h : b ≠ 0) : (0 : Int) < ((Int.gcd t b : Nat) : Int) := by
  have := Int.gcd_pos_of_ne_zero_right t h
  omega
theorem low_pos {t b : Int} (h : 0 < b) : Low t b (t.fdiv (Int.gcd t b)) (b.fdiv (Int.gcd t b)) := by
  have hg := gcd_pos' (t := t) (b := b) (by omega)
  obtain ⟨c, d, hc, hd, e1, e2, e3⟩ := low_g hg rfl (by omega)
  rw [Int.fdiv_eq_ediv_of_nonneg _ (by omega), Int.fdiv_eq_ediv_of_nonneg _ (by omega), e1, e2]
  refine ⟨?_, e3, _, by rw [Int.mul_comm]; exact hc, by rw [Int.mul_comm]; exact hd⟩
  rcases Int.lt_trichotomy d 0 with z | z | z
  · have := Int.mul_neg_of_pos_of_neg hg z
    omega
  · subst z; omega
  · exact z
theorem low_neg {t b : Int} (h : b < 0) : Low t b (t.fdiv (-(Int.gcd t b))) (b.fdiv (-(Int.gcd t b))) := by
  have hg := gcd_pos' (t := t) (b := b) (by omega)
  obtain ⟨c, d, hc, hd, e1, e2, e3⟩ := low_g hg rfl (by omega)
  have key : ∀ g x y : Int, 0 < g → x = g * y → x.fdiv (-g) = -y := fun g x y hg hx => by
    rw [hx, show g * y = (-g) * (-y) by rw [Int.neg_mul_neg]]
    exact Int.mul_fdiv_cancel_left _ (by omega)
  have f1 := key _ _ _ hg hc
  have f2 := key _ _ _ hg hd
  rw [f1, f2]
  refine ⟨?_, by rw [Int.gcd_neg, Int.neg_gcd]; exact e3, -((Int.gcd t b : Nat) : Int), by rw [Int.neg_mul_neg, Int.mul_comm]; exact hc, by rw [Int.neg_mul_neg, Int.mul_comm]; exact hd⟩
  rcases Int.lt_trichotomy d 0 with z | z | z
  · omega
  · subst z; omega
  · have := Int.mul_pos hg z
    omega
theorem Low.le {t b n d : Int} (h : Low t b n d) (hb : b ≠ 0) : n.natAbs ≤ t.natAbs ∧ d.natAbs ≤ b.natAbs := by
  obtain ⟨_, _, k, e1, e2⟩ := h
  have hk : 1 ≤ k.natAbs := by
    rcases Nat.eq_zero_or_pos k.natAbs with z | z
    · have : k = 0 := by omega
      subst this
      simp at e2
      exact absurd e2 hb
    · exact z
  rw [e1, e2, Int.natAbs_mul, Int.natAbs_mul]
  exact ⟨Nat.le_mul_of_pos_right _ hk, Nat.le_mul_of_pos_right _ hk⟩
/-- lowest terms are the only ones -/
theorem Low.self {t b n d : Int} (h : Low t b n d) (hb : 0 < b) (hc : Int.gcd t b = 1) : n = t ∧ d = b := by
  obtain ⟨h0, h1, k, e1, e2⟩ := h
  have hk : Int.gcd t b = Int.gcd n d * k.natAbs := by rw [e1, e2, Int.gcd_mul_right]
  rw [hc, h1] at hk
  have k1 : k.natAbs = 1 := by omega
  have k2 : 0 < k := by
    rcases Int.lt_trichotomy k 0 with z | z | z
    · have := Int.mul_neg_of_pos_of_neg h0 z
      omega
    · omega
    · exact z
  have : k = 1 := by omega
  subst this
  rw [Int.mul_one] at e1 e2
  exact ⟨e1.symm, e2.symm⟩
/-- Ratio(t, b): the new instance -/
def sp_Ratio_init (K : PySem.W.Frag) : Sp := fun vs H Q _ => ∃ x dx t b, vs = [.ref x, .int t, .int b] ∧ H x = some (.ins (He.ga K "Ratio") dx []) ∧ b ≠ 0 ∧ G.Bd 4000 t ∧ G.Bd 4000 b ∧
  ∀ n d H', Low t b n d → G.Mi x H H' → H' x = some (.ins (He.ga K "Ratio") dx [("top", .int n), ("bottom", .int d)]) → Q .non H'
end
end Lw

local macro_rules | `(tactic| walk_at "gx") => `(tactic| first
  | ((with_reducible refine Lw.need_divisor_i ?h ?_); (case h => first | assumption | omega)))

namespace Lw
open PySem PySem.Spec PyProof.Rows L2
section
variable {P : Program} {w : World} {K : PySem.W.Frag} {mg : Str → Option Value} {base : Heap}
theorem pf_R {x y : V} : putF ("bottom" : Str) y (putF ("top" : Str) x []) = ([("top", x), ("bottom", y)] : List (Str × V)) := by
  have e : ¬ (("top" : Str) = "bottom") := by decide +kernel
  show (if ("top" : Str) = "bottom" then [(("top" : Str), y)] else (("top" : Str), x) :: putF "bottom" y []) = ([("top", x), ("bottom", y)] : List (Str × V))
  rw [if_neg e]
  rfl
theorem bd_gcd {m : Nat} {t b : Int} (h : G.Bd m b) (hb : b ≠ 0) : G.Bd m ((Int.gcd t b : Nat) : Int) := G.Bd.of_le h (by
  have : Int.gcd t b ∣ b.natAbs := Nat.gcd_dvd_right _ _
  have := Nat.le_of_dvd (by omega) this
  omega)
theorem init_end {H : Hp} {x dx : Addr} {t b s : Int} {σ : L2.St} {te tx : TE} {n : L2.St → Hp → Prop} {r : VK} {bk ct : L2.St → Hp → Prop} (T : Tx K mg) (hx : H x = some (.ins (He.ga K "Ratio") dx [])) (hs : s ≠ 0) (bs : G.Bd 4000 s)
    (he : ∀ H' (Q : VK), G.rDivG (.int b) (.int s) H' Q → te σ H' Q) (hv : ∀ H' (Q : VK), Q (.ref x) H' → tx σ H' Q)
    (q : ∀ H', G.Mi x H H' → H' x = some (.ins (He.ga K "Ratio") dx [("top", .int (t.fdiv s)), ("bottom", .int (b.fdiv s))]) → n σ H') :
    G.rDivG (.int t) (.int s) H fun y H1 => tx σ H1 fun x1 H2 => G.SFldK K "top" x1 y H2 (sFld K tx te "bottom" ⟨n, r, bk, ct⟩ σ) := by
  refine G.fdiv_ii hs bs (by decide) (hv _ _ ?_)
  refine G.st_setfldM hx (cl_Ratio T) (na_Ratio_top T) (by decide) fun H1 m1 e1 => ?_
  refine G.st_setfld (he _ _ (G.fdiv_ii hs bs (by decide) (hv _ _ ?_)))
  refine G.st_setfldM e1 (cl_Ratio T) (na_Ratio_bottom T) (by show 1 < 1000; decide) fun H2 m2 e2 => ?_
  exact q _ (m1.trans m2) (e2.trans (congrArg (fun z => some (HO.ins (He.ga K "Ratio") dx z)) pf_R))
theorem ok_Ratio_init (T : Tx K mg) : G.FnG P w K mg base CX0 2 (a_Ratio_init K) (G.fdOf K (a_Ratio_init K)) ["self", "top", "bottom"] (sp_Ratio_init K) := by
  refine G.ok_of (F_Ratio_init T) sc_Ratio_init (fun vs H Q E h => ?_) (fun cdv A outer s H vs Q E hr h => ?_)
  · obtain ⟨x, dx, t, b, rfl, _⟩ := h
    rfl
  · obtain ⟨x, dx, t, b, rfl, hx, hb, bt, bb, q⟩ := h
    refine ⟨_, (pss_cons (ps_if (pt_not (pt_val (G.pe_callG (ok_is_integer T) (hr.mono (by first | decide | omega)) rfl (gl_is_integer T) (F_is_integer T).kp (bi_is_integer T) .nil pass0 (pa_cons (pv 1) pa_nil)))) (pss_one ps_never) pss_nil)
    (pss_cons (ps_if (pt_not (pt_val (G.pe_callG (ok_is_integer T) (hr.mono (by first | decide | omega)) rfl (gl_is_integer T) (F_is_integer T).kp (bi_is_integer T) .nil pass0 (pa_cons (pv 2) pa_nil)))) (pss_one ps_never) pss_nil)
    (pss_cons (ps_expr (G.pe_callG (ok_need_divisor T) (hr.mono (by first | decide | omega)) rfl (gl_need_divisor T) (F_need_divisor T).kp (bi_need_divisor T) .nil pass0 (pa_cons (pv 2) pa_nil)))
    (pss_cons (ps_set (i := 3) sc_Ratio_init.nd rfl (Or.inl rfl) (G.pe_callG (ok_common_divisor T) (hr.mono (by first | decide | omega)) rfl (gl_common_divisor T) (F_common_divisor T).kp (bi_common_divisor T) .nil pass0 (pa_cons (pv 1) (pa_cons (pv 2) pa_nil))))
    (pss_cons (ps_if (pt_cmpR G.op_ltG (pv 2) pe_int (nomark _)) (pss_one (ps_set (i := 3) sc_Ratio_init.nd rfl (Or.inl rfl) (pe_un G.un_negG (pv 3)))) pss_nil)
    (pss_cons (ps_fld (pv 0) (pe_op G.op_divG (pv 1) (pv 3)) rfl)
    (pss_one (ps_fld (pv 0) (pe_op G.op_divG (pv 2) (pv 3)) rfl)))))))), ?_⟩
    walk_at "start"
    walk_at "gob"
    · have h0 := gcd_pos' (t := t) hb
      refine init_end T hx (by omega) (bd_gcd bb hb).neg (fun H' Q h => ?_) (fun H' Q h => ?_) fun H' k e => q _ _ _ (low_neg (by omega)) k e
      · walk_at "go"; exact h
      · walk_at "go"; exact h
    · have h0 := gcd_pos' (t := t) hb
      refine init_end T hx (by omega) (bd_gcd bb hb) (fun H' Q h => ?_) (fun H' Q h => ?_) fun H' k e => q _ _ _ (low_pos (by omega)) k e
      · walk_at "go"; exact h
      · walk_at "go"; exact h
end
end Lw

namespace Lw
open PySem PySem.Spec PyProof.Rows L2
/-! ### the pen -/
section
variable {P : Program} {w : World} {K : PySem.W.Frag} {mg : Str → Option Value} {base : Heap} {H H' : Hp} {Q : VK} {E : XK} {p q l r x : Addr} {a b c d t m : Int} {v y : V} {n n' : Nat}
/-- the state of the drawing, its cells at l, at most n of them taken -/
def PenL (H : Hp) (p l : Addr) (n : Nat) : Prop := ∃ (i g : Int) (ns : List Int), H p = some (.lst [.ref l, .int i, .int g]) ∧ H l = some (.lst (ns.map V.int)) ∧ l ≠ p ∧ 0 ≤ i ∧ i ≤ (n : Int) ∧ 0 ≤ g ∧ ns.length ≤ 63
theorem PenL.mono (h : PenL H p l n) (e : n ≤ n') : PenL H p l n' := by
  obtain ⟨i, g, ns, h1, h2, h3, h4, h5, h6, h7⟩ := h
  exact ⟨i, g, ns, h1, h2, h3, h4, by omega, h6, h7⟩
theorem PenL.kp (k : G.Kp H H') (h : PenL H p l n) : PenL H' p l n := by
  obtain ⟨i, g, ns, h1, h2, h3⟩ := h
  exact ⟨i, g, ns, k _ _ h1, k _ _ h2, h3⟩
theorem PenL.is (h : PenL H p l n) : ∃ xs, H p = some (.lst xs) := let ⟨_, _, _, e, _⟩ := h; ⟨_, e⟩
/-- another list changes: the pen stays -/
theorem PenL.md (k : G.Md q H H') (n1 : p ≠ q) (n2 : l ≠ q) (h : PenL H p l n) : PenL H' p l n := by
  obtain ⟨i, g, ns, h1, h2, h3⟩ := h
  exact ⟨i, g, ns, k.lst h1 n1, k.lst h2 n2, h3⟩
theorem PenL.fresh (h : PenL H p l n) (e : H q = none) : p ≠ q ∧ l ≠ q := by
  obtain ⟨i, g, ns, h1, h2, h3⟩ := h
  exact ⟨ne_of_none h1 e, ne_of_none h2 e⟩
theorem dp_ints {ns : List Int} : DpAll K H (ns.map V.int) (ns.map PyData.int) := by
  induction ns with
  | nil => exact .nil
  | cons n r ih => exact .cons (.int n) ih
theorem lay_ints (ns : List Int) : PyData.canLayAll0 (ns.map PyData.int) = true ∧ PyData.depthAll (ns.map PyData.int) = 0 := by
  induction ns with
  | nil => exact ⟨rfl, rfl⟩
  | cons n r ih => exact ⟨by simp [PyData.canLayAll0, PyData.canLay0, ih.1], by simp [PyData.depthAll, PyData.depth, ih.2]⟩
theorem shaped_ints (ns : List Int) : SeqAt.shaped (.list (ns.map PyData.int)) = true := by
  have h := lay_ints ns
  simp [SeqAt.shaped, PyData.canLay0, PyData.depth, h.1, h.2]
theorem ne_empty {ns : List Int} (h1 : SqL K H p (ns.map V.int)) (h2 : SqL K H q []) (z : Q (.bl (!decide (ns = []))) H) : G.rNeG K (.ref p) (.ref q) H Q := by
  refine G.ne_dd (.lst h1 dp_ints) (.lst h2 .nil) (shaped_ints ns) (by decide) ?_
  have e : PyData.eqv (.list (ns.map PyData.int)) (.list []) = decide (ns = []) := by
    cases ns with
    | nil => rfl
    | cons n r => simp [PyData.eqv, PyData.eqvAll]
  rw [e]
  exact z
theorem mix_small {m b c1 c2 c3 : Int} (h0 : 0 ≤ m) (h1 : m < 2147483648) (h2 : 0 ≤ b) (h3 : b ≤ 1000000) (h4 : 0 ≤ c1) (h5 : c1 ≤ 1000) (h6 : 0 ≤ c2) (h7 : c2 ≤ 100000) (h8 : 0 ≤ c3) (h9 : c3 ≤ 1000000) :
    (m * (2 * b + c1) + c2 * b * b + c3).natAbs < 2 ^ 64 := by
  have e1 : m * (2 * b + c1) ≤ 2147483648 * 2001000 := Int.mul_le_mul (by omega) (by omega) (by omega) (by omega)
  have e2 : 0 ≤ m * (2 * b + c1) := Int.mul_nonneg h0 (by omega)
  have e3 : c2 * b ≤ 100000 * 1000000 := Int.mul_le_mul h7 h3 h2 (by omega)
  have e4 : 0 ≤ c2 * b := Int.mul_nonneg h6 h2
  have e5 : c2 * b * b ≤ (100000 * 1000000) * 1000000 := Int.mul_le_mul e3 h3 h2 (by omega)
  have e6 : 0 ≤ c2 * b * b := Int.mul_nonneg e4 h2
  omega
theorem cell_at {ns : List Int} {k : Int} (h0 : 0 ≤ k) (h1 : k < (ns.length : Int)) : ∃ c, atI (ns.map V.int) k = some (.int c) := by
  obtain ⟨j, rfl⟩ := Int.eq_ofNat_of_zero_le h0
  have hj : j < ns.length := by omega
  exact ⟨ns[j], atI_nat (by simp [hj])⟩
end
end Lw

local macro_rules | `(tactic| walk_at "gx") => `(tactic| ((with_reducible refine G.pow_ii (z := ?z0) ?h ?e ?_); (case h => (refine ⟨by omega, by omega, ?_⟩; refine Lw.mix_small ?_ ?_ ?_ ?_ ?_ ?_ ?_ ?_ ?_ ?_ <;> omega)); (case e => ((simp only [Int.reduceToNat]); rfl))))

namespace Lw
open PySem PySem.Spec PyProof.Rows L2
section
variable {P : Program} {w : World} {K : PySem.W.Frag} {mg : Str → Option Value} {base : Heap} {H H' : Hp} {Q : VK} {E : XK} {p q l r x : Addr} {a b c d t m : Int} {v y : V} {n n' : Nat}
def sp_draw : Sp := fun vs H Q _ => ∃ p l m n, vs = [.ref p, .int m] ∧ PenL H p l n ∧ n < 1000000 ∧ 0 < m ∧ G.Bd 8000 m ∧ ∀ d H', G.Md p H H' → PenL H' p l (n + 1) → 0 ≤ d → d < m → Q (.int d) H'
theorem ok_law_draw (T : Tx K mg) : G.FnG P w K mg base CX0 1 (a_law_draw K) (G.fdOf K (a_law_draw K)) ["_law_pen_here", "_law_many"] sp_draw := by
  refine G.ok_of (F_law_draw T) sc_law_draw (fun vs H Q E h => ?_) (fun cdv A outer s H vs Q E hr h => ?_)
  · obtain ⟨p, l, m, n, rfl, _⟩ := h
    rfl
  · obtain ⟨p, l, m, n, rfl, ⟨i, g, ns, hp, hl, nlp, i0, i1, g0, hz⟩, hn, m0, bm, q⟩ := h
    refine ⟨_, (pss_cons (ps_if (pt_cmpR G.op_gtG (pe_ix ix_seq (pv 0) pe_int (fun _ _ => rfl)) pe_int (nomark _)) (pss_cons (ps_set (i := 2) sc_law_draw.nd rfl (Or.inl rfl) (pe_op G.op_modG (pe_callTy G.call_intG (by rfl) (fr_int T) boot_int (pa_cons (pe_ix ix_seq (pv 0) pe_int (fun _ _ => rfl)) pa_nil)) (pv 1)))
    (pss_cons (ps_asg (pe_op G.op_divG (pe_callTy G.call_intG (by rfl) (fr_int T) boot_int (pa_cons (pe_ix ix_seq (pv 0) pe_int (fun _ _ => rfl)) pa_nil)) (pv 1)) (pg_sub (pv 0) pe_int set_list))
    (pss_one (ps_ret (pv 2))))) pss_nil)
    (pss_cons (ps_set (i := 3) sc_law_draw.nd rfl (Or.inl rfl) (pe_ix ix_seq (pv 0) pe_int (fun _ _ => rfl)))
    (pss_cons (ps_asg (pe_op G.op_addG (pv 3) pe_int) (pg_sub (pv 0) pe_int set_list))
    (pss_cons (ps_set (i := 4) sc_law_draw.nd rfl (Or.inl rfl) (pe_op G.op_addG (pe_op G.op_mulG pe_int (pv 3)) pe_int))
    (pss_cons (ps_if (pt_cmpR (G.op_neG hr.units) (pe_ix ix_seq (pv 0) pe_int (fun _ _ => rfl)) (pe_lst pa_nil) (nomark _)) (pss_one (ps_set (i := 4) sc_law_draw.nd rfl (Or.inl rfl) (pe_ix ix_seq (pe_ix ix_seq (pv 0) pe_int (fun _ _ => rfl)) (pe_op G.op_modG (pe_callTy G.call_intG (by rfl) (fr_int T) boot_int (pa_cons (pv 3) pa_nil)) (pe_callB G.call_lenG (by rfl) (fr_len T) PySem.boot_len (pa_cons (pe_ix ix_seq (pv 0) pe_int (fun _ _ => rfl)) pa_nil))) (fun _ _ => rfl)))) pss_nil)
    (pss_cons (ps_if (PW.pt (pw_and (pt_cmpR G.op_ltG (pv 3) (pe_callB G.call_lenG (by rfl) (fr_len T) PySem.boot_len (pa_cons (pe_ix ix_seq (pv 0) pe_int (fun _ _ => rfl)) pa_nil)) (nomark _)) (pw_and1 (pt_cmpR G.op_geG (pe_callB G.call_absG (by rfl) (fr_abs T) boot_abs (pa_cons (pv 4) pa_nil)) (pe_op G.op_powG pe_int pe_int) (nomark _))))) (pss_cons (ps_set (i := 5) sc_law_draw.nd rfl (Or.inl rfl) (pe_op G.op_addG (pe_op G.op_mulG pe_int (pe_op G.op_subG (pe_callB G.call_absG (by rfl) (fr_abs T) boot_abs (pa_cons (pv 4) pa_nil)) (pe_op G.op_powG pe_int pe_int))) (pe_callTy G.call_intG (by rfl) (fr_int T) boot_int (pa_cons (pe_cmpR G.op_ltG (pv 4) pe_int (nomark _)) pa_nil))))
    (pss_cons (ps_asg (pe_op G.op_divG (pe_callTy G.call_intG (by rfl) (fr_int T) boot_int (pa_cons (pv 5) pa_nil)) (pv 1)) (pg_sub (pv 0) pe_int set_list))
    (pss_one (ps_ret (pe_op G.op_modG (pe_callTy G.call_intG (by rfl) (fr_int T) boot_int (pa_cons (pv 5) pa_nil)) (pv 1)))))) pss_nil)
    (pss_cons (ps_set (i := 6) sc_law_draw.nd rfl (Or.inl rfl) (pe_op G.op_modG (pe_callTy G.call_intG (by rfl) (fr_int T) boot_int (pa_cons (pe_op G.op_powG (pe_op G.op_addG (pe_op G.op_addG (pe_op G.op_modG (pe_callTy G.call_intG (by rfl) (fr_int T) boot_int (pa_cons (pv 4) pa_nil)) pe_int) (pe_op G.op_mulG pe_int (pv 3))) pe_int) pe_int) pa_nil)) pe_int))
    (pss_cons (ps_set (i := 6) sc_law_draw.nd rfl (Or.inl rfl) (pe_op G.op_modG (pe_callTy G.call_intG (by rfl) (fr_int T) boot_int (pa_cons (pe_op G.op_powG (pe_op G.op_addG (pe_op G.op_addG (pe_op G.op_mulG (pv 6) (pe_op G.op_addG (pe_op G.op_mulG pe_int (pv 3)) pe_int)) (pe_op G.op_mulG (pe_op G.op_mulG pe_int (pv 3)) (pv 3))) pe_int) pe_int) pa_nil)) pe_int))
    (pss_one (ps_ret (pe_op G.op_modG (pe_callTy G.call_intG (by rfl) (fr_int T) boot_int (pa_cons (pe_op G.op_divG (pv 6) pe_int) pa_nil)) (pv 1)))))))))))), ?_⟩
    walk_at "start"
    walk_at "gob"
    · rename_i k2 e2
      exact q _ _ k2 ⟨i, g / m, ns, e2, k2.lst hl nlp, nlp, i0, by omega, Int.ediv_nonneg g0 (by omega), hz⟩ (Int.emod_nonneg _ (by omega)) (Int.emod_lt_of_pos _ m0)
    · rename_i H1 m1 e1 z H2 _ k2 e2
      have hlen : (ns.map V.int).length = ns.length := List.length_map ..
      have hl2 : H2 l = some (.lst (ns.map V.int)) := by walk_at "hp"
      refine ne_empty (SqL.of hl2) (SqL.of e2) ?_
      have e3 := k2 _ _ e1
      have m3 := m1.kp_r k2
      clear m1 e1 k2 e2
      have pen : ∀ d, 0 ≤ d → d < m → Q (.int d) H2 := fun d d0 d1 => q d H2 m3 ⟨i + 1, g, ns, e3, hl2, nlp, by omega, by omega, g0, hz⟩ d0 d1
      have fin : ∀ y : Int, Q (.int (y % m)) H2 := fun y => pen _ (Int.emod_nonneg _ (by omega)) (Int.emod_lt_of_pos _ m0)
      have great : ∀ y : Int, 0 ≤ y → ∀ H', G.Md p H2 H' → H' p = some (.lst [.ref l, .int (i + 1), .int (y / m)]) → Q (.int (y % m)) H' := fun y y0 H' k e =>
        q _ _ (m3.trans k) ⟨i + 1, y / m, ns, e, k.lst hl2 nlp, nlp, by omega, by omega, Int.ediv_nonneg y0 (by omega), hz⟩ (Int.emod_nonneg _ (by omega)) (Int.emod_lt_of_pos _ m0)
      clear q
      have ilt : i ≤ 1000000 := by omega
      by_cases hns : ns = []
      · have hpos : (ns.map V.int).length = 0 := by rw [hlen, hns]; rfl
        walk_at "gob"
        all_goals exact fin _
      · have hpos : 0 < ((ns.map V.int).length : Int) := by
          rw [hlen]
          have := List.length_pos_iff.mpr hns
          omega
        walk_at "gob"
        obtain ⟨c, hc⟩ := cell_at (ns := ns) (k := i % ((ns.map V.int).length : Int)) (Int.emod_nonneg _ (by omega)) (by rw [← hlen]; exact Int.emod_lt_of_pos _ hpos)
        refine G.ix_l (SqL.of hl2) hc ?_
        clear hc
        walk_at "gob"
        · exact great _ (by split <;> omega) _ (by assumption) (by assumption)
        all_goals exact fin _
theorem draw_p (hp : PenL H p l n) (hn : n < 1000000) (m0 : 0 < m) (bm : G.Bd 8000 m) (z : ∀ d H', G.Md p H H' → PenL H' p l (n + 1) → 0 ≤ d → d < m → Q (.int d) H') : sp_draw [.ref p, .int m] H Q E := ⟨p, l, m, n, rfl, hp, hn, m0, bm, z⟩
/-- the pen begins -/
def sp_pen (K : PySem.W.Frag) : Sp := fun vs H Q _ => ∃ (x : Addr) (ns : List Int), vs = [.ref x] ∧ SqL K H x (ns.map V.int) ∧ ns.length ≤ 63 ∧ ∀ p l H', H p = none → G.Kp H H' → PenL H' p l 0 → Q (.ref p) H'
theorem cut_ints (ns : List Int) (lo hi : Option Int) : ∃ ms : List Int, cutV (ns.map V.int) lo hi = ms.map V.int ∧ ms.length ≤ ns.length :=
  ⟨(ns.drop (HT.sIx ns.length 0 lo)).take (HT.sIx ns.length ns.length hi - HT.sIx ns.length 0 lo), by rw [cutV, List.length_map, List.map_take, List.map_drop], by rw [List.length_take, List.length_drop]; omega⟩
theorem ok_law_pen (T : Tx K mg) : G.FnG P w K mg base CX0 1 (a_law_pen K) (G.fdOf K (a_law_pen K)) ["_law_script"] (sp_pen K) := by
  refine G.ok_of (F_law_pen T) sc_law_pen (fun vs H Q E h => ?_) (fun cdv A outer s H vs Q E hr h => ?_)
  · obtain ⟨x, ns, rfl, _⟩ := h
    rfl
  · obtain ⟨x, ns, rfl, hx, ln, q⟩ := h
    refine ⟨_, (pss_one (ps_ret (pe_lst (pa_cons (pe_callTy G.call_listG (by rfl) (fr_list T) boot_list (pa_cons (pe_slice G.sl_G (pv 0) po_none (po_some pe_int)) pa_nil)) (pa_cons pe_int (pa_cons pe_int pa_nil)))))), ?_⟩
    walk_at "start"
    walk_at "go"
    obtain ⟨ms, em, lm⟩ := cut_ints ns none (some 63)
    rename_i p1 H1 n1 k1 e1 p2 H2 n2 k2 e2 p3 H3 n3 k3 e3
    rw [em] at e2
    exact q p3 p2 H3 (by walk_at "fr") ((k1.trans k2).trans k3) ⟨0, 0, ms, e3, k3 _ _ e2, ne_of_none e2 n3, by omega, by omega, by omega, by omega⟩
theorem pen_s {ns : List Int} (h : SqL K H x (ns.map V.int)) (l : ns.length ≤ 63) (q : ∀ p l H', H p = none → G.Kp H H' → PenL H' p l 0 → Q (.ref p) H') : sp_pen K [.ref x] H Q E := ⟨x, ns, rfl, h, l, q⟩
end
end Lw

local macro_rules | `(tactic| walk_at "hp") => `(tactic| first
  | (refine Lw.PenL.kp (by assumption) ?_; walk_at "hp"))
local macro_rules | `(tactic| walk_at "gx") => `(tactic| first
  | ((with_reducible refine Lw.draw_p (l := ?z0) (n := ?z1) ?h1 ?h2 ?h3 ?h4 ?_); (case h1 => walk_at "hp"); (case h2 => omega); (case h3 => omega); (case h4 => walk_at "bdw"); intro _ _ _ _ _ _)
  | ((with_reducible refine Lw.pen_s (ns := ?z0) ?h1 ?h2 ?_); (case h1 => walk_at "hp"); (case h2 => assumption); intro _ _ _ _ _ _))

namespace Lw
open PySem PySem.Spec PyProof.Rows L2
section
variable {P : Program} {w : World} {K : PySem.W.Frag} {mg : Str → Option Value} {base : Heap} {H H' : Hp} {Q : VK} {E : XK} {p q l r x u : Addr} {a b c d t m : Int} {v y : V} {n n' : Nat} {xs : List V}
/-- one of the values of a list -/
def sp_pick : Sp := fun vs H Q _ => ∃ p r l n xs, vs = [.ref p, .ref r] ∧ PenL H p l n ∧ n < 1000000 ∧ H r = some (.lst xs) ∧ r ≠ p ∧ xs ≠ [] ∧ xs.length ≤ 1000 ∧ ∀ v H', v ∈ xs → G.Md p H H' → PenL H' p l (n + 1) → Q v H'
theorem atI_mem {xs : List V} {k : Int} (h0 : 0 ≤ k) (h1 : k < (xs.length : Int)) : ∃ v, v ∈ xs ∧ atI xs k = some v := by
  obtain ⟨j, rfl⟩ := Int.eq_ofNat_of_zero_le h0
  have hj : j < xs.length := by omega
  exact ⟨xs[j], List.getElem_mem hj, atI_nat (by simp [hj])⟩
theorem ok_law_pick (T : Tx K mg) : G.FnG P w K mg base CX0 2 (a_law_pick K) (G.fdOf K (a_law_pick K)) ["_law_pen_here", "_law_some"] sp_pick := by
  refine G.ok_of (F_law_pick T) sc_law_pick (fun vs H Q E h => ?_) (fun cdv A outer s H vs Q E hr h => ?_)
  · obtain ⟨p, r, l, n, xs, rfl, _⟩ := h
    rfl
  · obtain ⟨p, r, l, n, xs, rfl, hp, hn, hl, nlp, ne, lz, q⟩ := h
    have l0 : 0 < xs.length := List.length_pos_iff.mpr ne
    have bz : G.Bd 8000 (xs.length : Int) := (G.Bd.of_le (G.Bd.lit 1000) (by omega)).mono (by decide +kernel)
    refine ⟨_, (pss_one (ps_ret (pe_ix ix_seq (pv 1) (G.pe_callG (ok_law_draw T) (hr.mono (by first | decide | omega)) rfl (gl_law_draw T) (F_law_draw T).kp (bi_law_draw T) .nil pass0 (pa_cons (pv 0) (pa_cons (pe_callB G.call_lenG (by rfl) (fr_len T) PySem.boot_len (pa_cons (pv 1) pa_nil)) pa_nil))) (fun _ _ => rfl)))), ?_⟩
    walk_at "start"
    walk_at "go"
    rename_i d H1 k1 p1 d0 d1
    obtain ⟨v, hv, hat⟩ := atI_mem d0 d1
    refine G.ix_l (SqL.of (k1.lst hl nlp)) hat ?_
    exact q v H1 hv k1 p1
theorem pick_p (hp : PenL H p l n) (hn : n < 1000000) (hl : H r = some (.lst xs)) (nlp : r ≠ p) (ne : xs ≠ []) (lz : xs.length ≤ 1000) (z : ∀ v H', v ∈ xs → G.Md p H H' → PenL H' p l (n + 1) → Q v H') : sp_pick [.ref p, .ref r] H Q E := ⟨p, r, l, n, xs, rfl, hp, hn, hl, nlp, ne, lz, z⟩
theorem PenL.neu (e : H u = none) (h : PenL H p l n) : u ≠ p := (h.fresh e).1.symm
end
end Lw

namespace Lw
open PySem PySem.Spec PyProof.Rows L2
section
variable {P : Program} {w : World} {K : PySem.W.Frag} {mg : Str → Option Value} {base : Heap} {H H' : Hp} {Q : VK} {E : XK} {a p : Addr} {t b n d i j t' b' : Int} {v y : V}
theorem mk_R (hb : b ≠ 0) (bt : G.Bd 4000 t) (bb : G.Bd 4000 b) (q : ∀ x H' n d, H x = none → G.Kp H H' → IsR K H' x n d → Low t b n d → Q (.ref x) H') : G.MakeK (He.ga K "Ratio") (sp_Ratio_init K) [] E [.int t, .int b] H Q :=
  G.st_mkK fun x dx H1 hn k hx => ⟨x, dx, t, b, rfl, hx, hb, bt, bb, fun n d H' low j e => ⟨rfl, q x H' n d hn (G.Kp.init hn k j) ⟨⟨dx, e⟩, low.1, low.2.1, bt.of_le (low.le hb).1, bb.of_le (low.le hb).2⟩ low⟩⟩
/-- lowest terms given: the same -/
theorem mk_Rs (hb : 0 < b) (hc : Int.gcd t b = 1) (bt : G.Bd 4000 t) (bb : G.Bd 4000 b) (q : ∀ x H', H x = none → G.Kp H H' → IsR K H' x t b → Q (.ref x) H') : G.MakeK (He.ga K "Ratio") (sp_Ratio_init K) [] E [.int t, .int b] H Q :=
  mk_R (by omega) bt bb fun x H' n d hn k h l => by
    obtain ⟨rfl, rfl⟩ := l.self hb hc
    exact q x H' hn k h
end
end Lw

namespace Lw
open PySem PySem.Spec PyProof.Rows L2
/-! ### fractions as rational numbers -/
section
variable {P : Program} {w : World} {K : PySem.W.Frag} {mg : Str → Option Value} {base : Heap} {H H' : Hp} {Q : VK} {E : XK} {a p x y : Addr} {t b n d i j : Int} {v : V} {q r : Rat} {m l : Nat}
theorem low_rat (h : Low t b n d) (hb : b ≠ 0) : n = (Rat.divInt t b).num ∧ d = ((Rat.divInt t b).den : Int) := by
  obtain ⟨h0, h1, k, e1, e2⟩ := h
  have hk : k ≠ 0 := fun z => hb (by rw [e2, z, Int.mul_zero])
  have e : Rat.divInt t b = Rat.divInt n d := (Rat.divInt_eq_divInt_iff hb (by omega)).mpr (by rw [e1, e2]; simp only [Int.mul_assoc, Int.mul_left_comm, Int.mul_comm])
  obtain ⟨f, rfl⟩ : ∃ f : Nat, d = f := ⟨d.toNat, by omega⟩
  have c : n.natAbs.Coprime f := h1
  rw [e, ← Rat.mk_eq_divInt (nz := by omega) (c := c)]
  exact ⟨rfl, rfl⟩
/-- a Ratio of the value q; its parts have m bits at most -/
structure IsQ (K : PySem.W.Frag) (H : Hp) (a : Addr) (q : Rat) (m : Nat) : Prop where
  r : IsR K H a q.num q.den
  bn : G.Bd m q.num
  bd : G.Bd m q.den
theorem IsQ.kp (k : G.Kp H H') (h : IsQ K H a q m) : IsQ K H' a q m := ⟨h.r.kp k, h.bn, h.bd⟩
theorem IsQ.md (k : G.Md p H H') (h : IsQ K H a q m) : IsQ K H' a q m := ⟨h.r.md k, h.bn, h.bd⟩
theorem IsQ.mono (h : IsQ K H a q m) (e : m ≤ l) : IsQ K H a q l := ⟨h.r, h.bn.mono e, h.bd.mono e⟩
theorem IsQ.of (h : IsR K H a n d) (e : Low t b n d) (hb : b ≠ 0) (eq : Rat.divInt t b = q) (bt : G.Bd m t) (bb : G.Bd m b) : IsQ K H a q m := by
  obtain ⟨e1, e2⟩ := low_rat e hb
  have l := e.le hb
  rw [eq] at e1 e2
  subst e1
  rw [e2] at h l
  exact ⟨h, bt.of_le l.1, bb.of_le l.2⟩
/-- a number: a Ratio or an int -/
def NumQ (K : PySem.W.Frag) (H : Hp) (v : V) (q : Rat) (m : Nat) : Prop := (∃ a, v = .ref a ∧ IsQ K H a q m) ∨ ∃ i : Int, v = .int i ∧ q = (i : Rat) ∧ G.Bd m i
theorem NumQ.kp (k : G.Kp H H') (h : NumQ K H v q m) : NumQ K H' v q m := h.elim (fun ⟨a, e, r⟩ => .inl ⟨a, e, r.kp k⟩) .inr
theorem NumQ.md (k : G.Md p H H') (h : NumQ K H v q m) : NumQ K H' v q m := h.elim (fun ⟨a, e, r⟩ => .inl ⟨a, e, r.md k⟩) .inr
theorem NumQ.of_q (h : IsQ K H a q m) : NumQ K H (.ref a) q m := .inl ⟨a, rfl, h⟩
theorem NumQ.of_i (h : G.Bd m i) : NumQ K H (.int i) (i : Rat) m := .inr ⟨i, rfl, rfl, h⟩
theorem NumQ.num (h : NumQ K H v q m) (e : m ≤ 4000) : Num K H v q.num q.den := by
  rcases h with ⟨a, rfl, r⟩ | ⟨i, rfl, rfl, b⟩
  · exact .of_r r.r
  · exact .of_int (by simpa using b.mono e)
theorem NumQ.bn (h : NumQ K H v q m) : G.Bd m q.num := by
  rcases h with ⟨a, rfl, r⟩ | ⟨i, rfl, rfl, b⟩
  · exact r.bn
  · simpa using b
theorem NumQ.bd (h : NumQ K H v q m) (e : 1 ≤ m) : G.Bd m q.den := by
  rcases h with ⟨a, rfl, r⟩ | ⟨i, rfl, rfl, b⟩
  · exact r.bd
  · have z := Nat.one_lt_two_pow (show m ≠ 0 by omega)
    show (((i : Rat).den : Int)).natAbs < 2 ^ m
    simpa using z
theorem den_pos (q : Rat) : (0 : Int) < q.den := by have := q.den_pos; omega
theorem div_self (q : Rat) : Rat.divInt q.num q.den = q := Rat.num_divInt_den q
theorem add_eq (q r : Rat) : Rat.divInt (q.num * r.den + r.num * q.den) (q.den * r.den) = q + r := by
  conv => rhs; rw [← div_self q, ← div_self r]
  rw [Rat.divInt_add_divInt _ _ (by have := den_pos q; omega) (by have := den_pos r; omega)]
theorem mul_eq (q r : Rat) : Rat.divInt (q.num * r.num) (q.den * r.den) = q * r := by
  conv => rhs; rw [← div_self q, ← div_self r]
  rw [Rat.divInt_mul_divInt]
theorem over_eq (q r : Rat) (h : r.num ≠ 0) : Rat.divInt (q.num * r.den) (q.den * r.num) = q / r := by
  conv => rhs; rw [← div_self q, ← div_self r]
  rw [Rat.div_def, Rat.inv_divInt, Rat.divInt_mul_divInt]
theorem den_mul (q r : Rat) : (q.den : Int) * r.den ≠ 0 := Int.ne_of_gt (Int.mul_pos (den_pos q) (den_pos r))
theorem lt_dec (q r : Rat) : decide (q.num * r.den < r.num * q.den) = decide (q < r) := by rw [decide_eq_decide, Rat.lt_iff]
theorem le_dec (q r : Rat) : decide (q.num * r.den ≤ r.num * q.den) = decide (q ≤ r) := by rw [decide_eq_decide, Rat.le_iff]
theorem eq_dec (q r : Rat) : decide (q.num = r.num ∧ (q.den : Int) = r.den) = decide (q = r) := by
  rw [decide_eq_decide]
  exact ⟨fun ⟨h1, h2⟩ => Rat.ext h1 (by omega), fun h => by rw [h]; exact ⟨rfl, rfl⟩⟩
theorem floor_eq (q : Rat) : q.num / (q.den : Int) = q.floor := by rw [Rat.floor_def]
end
end Lw

namespace Lw
open PySem PySem.Spec PyProof.Rows L2
/-! ### values that are no numbers -/
section
variable {P : Program} {w : World} {K : PySem.W.Frag} {mg : Str → Option Value} {base : Heap} {H H' : Hp} {Q : VK} {E : XK} {a p x y : Addr} {t b n d i j : Int} {v : V} {q r : Rat} {m l : Nat} {ty : String}
inductive OddV (H : Hp) : V → String → Prop
  | non : OddV H .non "NoneType"
  | bl (b : Bool) : OddV H (.bl b) "bool"
  | str (s : Str) : OddV H (.str s) "str"
  | tup {a : Addr} {xs : List V} (e : H a = some (.tup xs)) : OddV H (.ref a) "tuple"
  | lst {a : Addr} {xs : List V} (e : H a = some (.lst xs)) : OddV H (.ref a) "list"
  | dct {a : Addr} {kvs : List (Key × V)} (e : H a = some (.dK kvs)) : OddV H (.ref a) "dict"
theorem OddV.kp (k : G.Kp H H') (h : OddV H v ty) : OddV H' v ty := by
  cases h with
  | non => exact .non
  | bl b => exact .bl b
  | str s => exact .str s
  | tup e => exact .tup (k _ _ e)
  | lst e => exact .lst (k _ _ e)
  | dct e => exact .dct (k _ _ e)
theorem OddV.md (k : G.Md p H H') (h : OddV H v ty) : OddV H' v ty := by
  cases h with
  | non => exact .non
  | bl b => exact .bl b
  | str s => exact .str s
  | tup e => exact .tup (k.tup e)
  | @lst a xs e =>
    by_cases z : a = p
    · obtain ⟨ys, e2⟩ := k.now
      rw [z]
      exact .lst e2
    · exact .lst (k.lst e z)
  | dct e => exact .dct (k.dK e)
theorem OddV.tx (h : OddV H v ty) : TyX K H v (.type ty) := by
  cases h with
  | non => exact .base .non
  | bl b => exact .base (.bl _)
  | str s => exact .base (.str _)
  | tup e => exact .base (.tup e)
  | lst e => exact .base (.lst e)
  | dct e => exact .base (.dK e)
theorem OddV.ki (T : Tx K mg) (h : OddV H v ty) : PySem.W.kitOne K (.type ty) (.ref (He.ga K "Ratio")) = some false := by
  cases h with
  | non => exact ki_NoneType_Ratio T
  | bl b => exact ki_bool_Ratio T
  | str s => exact ki_str_Ratio T
  | tup e => exact ki_tuple_Ratio T
  | lst e => exact ki_list_Ratio T
  | dct e => exact ki_dict_Ratio T
theorem OddV.nf (T : Tx K mg) (h : OddV H v ty) : PySem.W.notFirst K (He.ga K "Ratio") (.type ty) = true := by
  cases h with
  | non => exact nf_Ratio_NoneType T
  | bl b => exact nf_Ratio_bool T
  | str s => exact nf_Ratio_str T
  | tup e => exact nf_Ratio_tuple T
  | lst e => exact nf_Ratio_list T
  | dct e => exact nf_Ratio_dict T
theorem OddV.kint (h : OddV H v ty) : PySem.W.kitOne K (.type ty) (.type "int") = some (decide (ty = "bool")) := by
  cases h <;> exact L2.kit_ty (by decide +kernel)
theorem OddV.kbool (h : OddV H v ty) : PySem.W.kitOne K (.type ty) (.type "bool") = some (decide (ty = "bool")) := by
  cases h <;> exact L2.kit_ty (by decide +kernel)
theorem isi_oR (T : Tx K mg) (h : OddV H v ty) (q : Q (.bl false) H) : G.rIsiG K [v, .ref (He.ga K "Ratio")] H Q := G.isi_cl h.tx (h.ki T) q
theorem isi_oi (h : OddV H v ty) (q : Q (.bl (decide (ty = "bool"))) H) : G.rIsiG K [v, .ty "int"] H Q := G.isi_ty h.tx h.kint q
theorem isi_ob (h : OddV H v ty) (q : Q (.bl (decide (ty = "bool"))) H) : G.rIsiG K [v, .ty "bool"] H Q := G.isi_ty h.tx h.kbool q
theorem isi_Ri (T : Tx K mg) (h : IsR K H a n d) (q : Q (.bl false) H) : G.rIsiG K [.ref a, .ty "int"] H Q := G.isi_ty (h.ty T) (kb_Ratio_int T) q
/-- no integer -/
def NoInt (K : PySem.W.Frag) (H : Hp) (v : V) : Prop := (∃ ty, OddV H v ty) ∨ ∃ a n d, v = .ref a ∧ IsR K H a n d
theorem NoInt.kp (k : G.Kp H H') (h : NoInt K H v) : NoInt K H' v := h.elim (fun ⟨t, o⟩ => .inl ⟨t, o.kp k⟩) fun ⟨a, n, d, e, r⟩ => .inr ⟨a, n, d, e, r.kp k⟩
theorem NoInt.md (k : G.Md p H H') (h : NoInt K H v) : NoInt K H' v := h.elim (fun ⟨t, o⟩ => .inl ⟨t, o.md k⟩) fun ⟨a, n, d, e, r⟩ => .inr ⟨a, n, d, e, r.md k⟩
def sp_is_integerN (K : PySem.W.Frag) : Sp := fun vs H Q _ => ∃ v, vs = [v] ∧ ((∃ i, v = .int i ∧ Q (.bl true) H) ∨ (NoInt K H v ∧ Q (.bl false) H))
theorem is_integerN_n (h : NoInt K H v) (q : Q (.bl false) H) : sp_is_integerN K [v] H Q E := ⟨v, rfl, .inr ⟨h, q⟩⟩
theorem is_integerN_i (q : Q (.bl true) H) : sp_is_integerN K [.int i] H Q E := ⟨_, rfl, .inl ⟨i, rfl, q⟩⟩
end
end Lw

-- k02: values of any kind
local macro_rules | `(tactic| walk_at "hp") => `(tactic| first
  | (refine Lw.OddV.kp (by assumption) ?_; walk_at "hp")
  | (refine Lw.OddV.md (by assumption) ?_; walk_at "hp")
  | (refine Lw.NoInt.kp (by assumption) ?_; walk_at "hp")
  | (refine Lw.NoInt.md (by assumption) ?_; walk_at "hp")
  | (refine Lw.IsQ.kp (by assumption) ?_; walk_at "hp")
  | (refine Lw.IsQ.md (by assumption) ?_; walk_at "hp")
  | (refine Lw.NumQ.kp (by assumption) ?_; walk_at "hp")
  | (refine Lw.NumQ.md (by assumption) ?_; walk_at "hp")
  | (refine Lw.NumQ.of_q ?_; walk_at "hp")
  | ((with_reducible refine Lw.NumQ.of_i (m := ?zm) ?zb); (case zb => walk_at "bd"))
  | ((with_reducible refine Lw.IsQ.r (q := ?zq) (m := ?zm) ?zh); (case zh => walk_at "hp")))
local macro_rules | `(tactic| walk_at "gx") => `(tactic| first
  | ((with_reducible refine Lw.isi_oR (ty := ?z0) (by assumption) ?h ?_); (case h => walk_at "hp"))
  | ((with_reducible refine Lw.isi_oi (ty := ?z0) ?h ?_); (case h => walk_at "hp"))
  | ((with_reducible refine Lw.isi_ob (ty := ?z0) ?h ?_); (case h => walk_at "hp"))
  | ((with_reducible refine Lw.isi_Ri (n := ?z0) (d := ?z1) (by assumption) ?h ?_); (case h => walk_at "hp"))
  | with_reducible refine Lw.is_integerN_i ?_
  | ((with_reducible refine Lw.is_integerN_n ?h ?_); (case h => first | walk_at "hp" | exact .inl ⟨_, by walk_at "hp"⟩ | exact .inr ⟨_, _, _, rfl, by walk_at "hp"⟩)))

namespace Lw
open PySem PySem.Spec PyProof.Rows L2
section
variable {P : Program} {w : World} {K : PySem.W.Frag} {mg : Str → Option Value} {base : Heap}
theorem okN_is_integer (T : Tx K mg) : G.FnG P w K mg base CX0 1 (a_is_integer K) (G.fdOf K (a_is_integer K)) ["value"] (sp_is_integerN K) := by
  refine G.ok_of (F_is_integer T) sc_is_integer (fun vs H Q E h => ?_) (fun cdv A outer s H vs Q E hr h => ?_)
  · obtain ⟨i, rfl, _⟩ := h
    rfl
  · obtain ⟨v, rfl, h⟩ := h
    refine ⟨_, (pss_one (ps_ret (pe_and (pe_callB G.call_isiG (by rfl) (fr_isinstance T) boot_isinstance (pa_cons (pv 0) (pa_cons (G.pe_ty (by rfl) (fr_int T) boot_int) pa_nil))) (pe_one (pe_not (pe_callB G.call_isiG (by rfl) (fr_isinstance T) boot_isinstance (pa_cons (pv 0) (pa_cons (G.pe_ty (by rfl) (fr_bool T) boot_bool) pa_nil)))))))), ?_⟩
    rcases h with ⟨i, rfl, q⟩ | ⟨⟨ty, ho⟩ | ⟨a, n, d, rfl, ha⟩, q⟩
    · walk_at "start"
      walk_at "gob"
      exact q
    · walk_at "start"
      walk_at "gob"
      all_goals
        rename_i hc
        first
          | exact q
          | (rw [decide_eq_true hc]; exact q)
    · walk_at "start"
      walk_at "gob"
      exact q
def sp_is_numberN (K : PySem.W.Frag) : Sp := fun vs H Q _ => ∃ v, vs = [v] ∧ ((∃ r l, NumQ K H v r l ∧ l ≤ 4000 ∧ Q (.bl true) H) ∨ (∃ ty, OddV H v ty ∧ Q (.bl false) H))
/-- an exception with its field -/
def XE1 (K : PySem.W.Frag) (E : XK) (H : Hp) (x : Str) (v : V) : Prop := ∀ d H', G.Kp H H' → H' d = some (.xd [("part", v)]) → E (.ref (He.ga K x)) (some d) H'
/-! rows -/
section
variable {H H' : Hp} {Q : VK} {E : XK} {v : V} {r : Rat} {l : Nat} {ty : String}
theorem is_numberN_q (h : NumQ K H v r l) (e : l ≤ 4000) (q : Q (.bl true) H) : sp_is_numberN K [v] H Q E := ⟨v, rfl, .inl ⟨r, l, h, e, q⟩⟩
theorem is_numberN_o (h : OddV H v ty) (q : Q (.bl false) H) : sp_is_numberN K [v] H Q E := ⟨v, rfl, .inr ⟨ty, h, q⟩⟩
end
end
end Lw

namespace Lw
open PySem PySem.Spec PyProof.Rows L2
/-! ### the operators: promises, rows -/
section
variable {P : Program} {w : World} {K : PySem.W.Frag} {mg : Str → Option Value} {base : Heap} {H H' : Hp} {Q : VK} {E : XK} {a p x y : Addr} {t b n d i j : Int} {v : V} {q r : Rat} {m l : Nat} {f : Rat → Rat → Rat} {g : Nat → Nat → Nat} {fb : Rat → Rat → Bool}
def sp_bin (K : PySem.W.Frag) (f : Rat → Rat → Rat) (g : Nat → Nat → Nat) : Sp := fun vs H Q _ => ∃ a q m v r l, vs = [.ref a, v] ∧ IsQ K H a q m ∧ NumQ K H v r l ∧ 1 ≤ l ∧ m ≤ 999 ∧ l ≤ 999 ∧ ∀ z H', H z = none → G.Kp H H' → IsQ K H' z (f q r) (g m l) → Q (.ref z) H'
def sp_rbin (K : PySem.W.Frag) (f : Rat → Rat → Rat) (g : Nat → Nat → Nat) : Sp := fun vs H Q _ => ∃ a q m i l, vs = [.ref a, .int i] ∧ IsQ K H a q m ∧ G.Bd l i ∧ 1 ≤ l ∧ m ≤ 999 ∧ l ≤ 999 ∧ ∀ z H', H z = none → G.Kp H H' → IsQ K H' z (f q i) (g m l) → Q (.ref z) H'
def sp_cmpQ (K : PySem.W.Frag) (f : Rat → Rat → Bool) : Sp := fun vs H Q _ => ∃ a q m v r l, vs = [.ref a, v] ∧ IsQ K H a q m ∧ NumQ K H v r l ∧ l ≤ 4000 ∧ ∀ H', G.Kp H H' → Q (.bl (f q r)) H'
def sp_negQ (K : PySem.W.Frag) : Sp := fun vs H Q _ => ∃ a q m, vs = [.ref a] ∧ IsQ K H a q m ∧ ∀ z H', H z = none → G.Kp H H' → IsQ K H' z (-q) m → Q (.ref z) H'
def qabs (q : Rat) : Rat := if q < 0 then -q else q
def sp_absQ (K : PySem.W.Frag) : Sp := fun vs H Q _ => ∃ a q m, vs = [.ref a] ∧ IsQ K H a q m ∧ ∀ z H', H z = none → G.Kp H H' → IsQ K H' z (qabs q) m → Q (.ref z) H'
def sp_ofQ (K : PySem.W.Frag) : Sp := fun vs H Q _ => ∃ v r l, vs = [v] ∧ NumQ K H v r l ∧ 1 ≤ l ∧ l ≤ 4000 ∧ ∀ z H', H z = none → G.Kp H H' → IsQ K H' z r l → Q (.ref z) H'
def sp_over (K : PySem.W.Frag) : Sp := fun vs H Q _ => ∃ a q m v r l, vs = [.ref a, v] ∧ IsQ K H a q m ∧ NumQ K H v r l ∧ r ≠ 0 ∧ 1 ≤ l ∧ m ≤ 999 ∧ l ≤ 999 ∧ ∀ z H', H z = none → G.Kp H H' → IsQ K H' z (q / r) (m + l) → Q (.ref z) H'
def spx_over (K : PySem.W.Frag) : Sp := fun vs H _ E => ∃ a q m v l, vs = [.ref a, v] ∧ IsQ K H a q m ∧ NumQ K H v 0 l ∧ l ≤ 4000 ∧ ∀ H', G.Kp H H' → E (.ref (He.ga K "NoDivisor")) none H'
def spx_need_divisor (K : PySem.W.Frag) : Sp := fun vs H _ E => vs = [.int 0] ∧ E (.ref (He.ga K "NoDivisor")) none H
def sp_fdiv (K : PySem.W.Frag) : Sp := fun vs H Q _ => ∃ a q m v r l, vs = [.ref a, v] ∧ IsQ K H a q m ∧ NumQ K H v r l ∧ r ≠ 0 ∧ 1 ≤ l ∧ m ≤ 999 ∧ l ≤ 999 ∧ ∀ H', G.Kp H H' → Q (.int (q / r).floor) H'
abbrev qmod (q r : Rat) : Rat := q - r * ((q / r).floor : Rat)
def sp_modQ (K : PySem.W.Frag) : Sp := fun vs H Q _ => ∃ a q m v r l, vs = [.ref a, v] ∧ IsQ K H a q m ∧ NumQ K H v r l ∧ r ≠ 0 ∧ 1 ≤ l ∧ m ≤ 300 ∧ l ≤ 300 ∧ ∀ z H', H z = none → G.Kp H H' → IsQ K H' z (qmod q r) (m + (l + (m + l)) + 1) → Q (.ref z) H'
abbrev gadd (m l : Nat) : Nat := m + l + 1
theorem bd_add2 {x y : Int} (h : G.Bd m x) (k : G.Bd m y) : G.Bd (m + 1) (x + y) := by
  have h' : x.natAbs < 2 ^ m := h
  have k' : y.natAbs < 2 ^ m := k
  show (x + y).natAbs < 2 ^ (m + 1)
  rw [Nat.pow_succ]
  omega
abbrev gmul (m l : Nat) : Nat := m + l
/-! rows -/
theorem NumQ.ty (T : Tx K mg) (h : NumQ K H v r l) : ∃ tv, TyX K H v tv ∧ PySem.W.notFirst K (He.ga K "Ratio") tv = true := by
  rcases h with ⟨a, rfl, h⟩ | ⟨i, rfl, _⟩
  · exact ⟨_, h.r.ty T, nf_Ratio_Ratio T⟩
  · exact ⟨_, .base (.int _), nf_Ratio_int T⟩
theorem bin_QQ (h : IsQ K H a q m) (k : IsQ K H x r l) (h1 : 1 ≤ l) (h2 : m ≤ 999) (h3 : l ≤ 999) (z : ∀ z H', H z = none → G.Kp H H' → IsQ K H' z (f q r) (g m l) → Q (.ref z) H') : G.rBinS (He.ga K "Ratio") (sp_bin K f g) E (.ref a) (.ref x) H Q :=
  let ⟨dx, e1⟩ := h.r.at_
  let ⟨dy, e2⟩ := k.r.at_
  ⟨a, dx, _, x, dy, _, rfl, rfl, e1, e2, a, q, m, .ref x, r, l, rfl, h, .of_q k, h1, h2, h3, z⟩
theorem bin_Qi (h : IsQ K H a q m) (k : G.Bd l i) (h1 : 1 ≤ l) (h2 : m ≤ 999) (h3 : l ≤ 999) (z : ∀ z H', H z = none → G.Kp H H' → IsQ K H' z (f q i) (g m l) → Q (.ref z) H') : G.rBinI (He.ga K "Ratio") (sp_bin K f g) E (.ref a) (.int i) H Q :=
  let ⟨dx, e1⟩ := h.r.at_
  ⟨a, dx, _, i, rfl, rfl, e1, a, q, m, .int i, (i : Rat), l, rfl, h, .of_i k, h1, h2, h3, z⟩
theorem bin_iQ (h : IsQ K H a q m) (k : G.Bd l i) (h1 : 1 ≤ l) (h2 : m ≤ 999) (h3 : l ≤ 999) (z : ∀ z H', H z = none → G.Kp H H' → IsQ K H' z (f q i) (g m l) → Q (.ref z) H') : G.rBinR (He.ga K "Ratio") (sp_rbin K f g) E (.int i) (.ref a) H Q :=
  let ⟨dx, e1⟩ := h.r.at_
  ⟨a, dx, _, i, rfl, rfl, e1, a, q, m, i, l, rfl, h, k, h1, h2, h3, z⟩
theorem fdiv_QQ (h : IsQ K H a q m) (k : IsQ K H x r l) (h0 : r ≠ 0) (h1 : 1 ≤ l) (h2 : m ≤ 999) (h3 : l ≤ 999) (z : ∀ H', G.Kp H H' → Q (.int (q / r).floor) H') : G.rBinS (He.ga K "Ratio") (sp_fdiv K) E (.ref a) (.ref x) H Q :=
  let ⟨dx, e1⟩ := h.r.at_
  let ⟨dy, e2⟩ := k.r.at_
  ⟨a, dx, _, x, dy, _, rfl, rfl, e1, e2, a, q, m, .ref x, r, l, rfl, h, .of_q k, h0, h1, h2, h3, z⟩
theorem fdiv_Qi (h : IsQ K H a q m) (k : G.Bd l i) (h0 : i ≠ 0) (h1 : 1 ≤ l) (h2 : m ≤ 999) (h3 : l ≤ 999) (z : ∀ H', G.Kp H H' → Q (.int (q / (i : Rat)).floor) H') : G.rBinI (He.ga K "Ratio") (sp_fdiv K) E (.ref a) (.int i) H Q :=
  let ⟨dx, e1⟩ := h.r.at_
  ⟨a, dx, _, i, rfl, rfl, e1, a, q, m, .int i, (i : Rat), l, rfl, h, .of_i k, by simpa using h0, h1, h2, h3, z⟩
theorem mod_QQ (h : IsQ K H a q m) (k : IsQ K H x r l) (h0 : r ≠ 0) (h1 : 1 ≤ l) (h2 : m ≤ 300) (h3 : l ≤ 300) (z : ∀ z H', H z = none → G.Kp H H' → IsQ K H' z (qmod q r) (m + (l + (m + l)) + 1) → Q (.ref z) H') : G.rBinS (He.ga K "Ratio") (sp_modQ K) E (.ref a) (.ref x) H Q :=
  let ⟨dx, e1⟩ := h.r.at_
  let ⟨dy, e2⟩ := k.r.at_
  ⟨a, dx, _, x, dy, _, rfl, rfl, e1, e2, a, q, m, .ref x, r, l, rfl, h, .of_q k, h0, h1, h2, h3, z⟩
theorem mod_Qi (h : IsQ K H a q m) (k : G.Bd l i) (h0 : i ≠ 0) (h1 : 1 ≤ l) (h2 : m ≤ 300) (h3 : l ≤ 300) (z : ∀ z H', H z = none → G.Kp H H' → IsQ K H' z (qmod q i) (m + (l + (m + l)) + 1) → Q (.ref z) H') : G.rBinI (He.ga K "Ratio") (sp_modQ K) E (.ref a) (.int i) H Q :=
  let ⟨dx, e1⟩ := h.r.at_
  ⟨a, dx, _, i, rfl, rfl, e1, a, q, m, .int i, (i : Rat), l, rfl, h, .of_i k, by simpa using h0, h1, h2, h3, z⟩
theorem neg_Q (h : IsQ K H a q m) (z : ∀ z H', H z = none → G.Kp H H' → IsQ K H' z (-q) m → Q (.ref z) H') : G.rNegO (He.ga K "Ratio") (sp_negQ K) E (.ref a) H Q :=
  let ⟨dx, e1⟩ := h.r.at_
  ⟨a, dx, _, rfl, e1, a, q, m, rfl, h, z⟩
theorem abs_Q (h : IsQ K H a q m) (z : ∀ z H', H z = none → G.Kp H H' → IsQ K H' z (qabs q) m → Q (.ref z) H') : G.rAbsO (He.ga K "Ratio") (sp_absQ K) E [.ref a] H Q :=
  let ⟨dx, e1⟩ := h.r.at_
  ⟨a, dx, _, rfl, e1, a, q, m, rfl, h, z⟩
theorem of_Q (h : NumQ K H v r l) (h1 : 1 ≤ l) (h2 : l ≤ 4000) (z : ∀ z H', H z = none → G.Kp H H' → IsQ K H' z r l → Q (.ref z) H') : sp_ofQ K [v] H Q E := ⟨v, r, l, rfl, h, h1, h2, z⟩
theorem over_Q (h : IsQ K H a q m) (k : NumQ K H v r l) (h0 : r ≠ 0) (h1 : 1 ≤ l) (h2 : m ≤ 999) (h3 : l ≤ 999) (z : ∀ z H', H z = none → G.Kp H H' → IsQ K H' z (q / r) (m + l) → Q (.ref z) H') : sp_over K [.ref a, v] H Q E := ⟨a, q, m, v, r, l, rfl, h, k, h0, h1, h2, h3, z⟩
theorem rc_over {R : Prop} (h : IsQ K H a q m) (z : R) : G.RecvK (He.ga K "Ratio") "over" (.ref a) H R := let ⟨dx, e⟩ := h.r.at_; ⟨a, dx, _, rfl, e, by
  have e1 : (("over" : Str) == "top") = false := by decide +kernel
  have e2 : (("over" : Str) == "bottom") = false := by decide +kernel
  simp [List.lookup, e1, e2], z⟩
theorem cmpQ_Q (T : Tx K mg) (h : IsQ K H a q m) (k : NumQ K H v r l) (h2 : l ≤ 4000) (z : ∀ H', G.Kp H H' → Q (.bl (fb q r)) H') : G.rCmpO K (He.ga K "Ratio") (sp_cmpQ K fb) E (.ref a) v H Q :=
  let ⟨dx, e⟩ := h.r.at_
  let ⟨tv, ty, nf⟩ := k.ty T
  ⟨a, dx, _, tv, rfl, e, ty, nf, a, q, m, v, r, l, rfl, h, k, h2, z⟩
theorem cmpQ_0 (T : Tx K mg) (h : IsQ K H a q m) (z : ∀ H', G.Kp H H' → Q (.bl (fb q 0)) H') : G.rCmpO K (He.ga K "Ratio") (sp_cmpQ K fb) E (.ref a) (.int 0) H Q :=
  cmpQ_Q T h (l := 1) (.inr ⟨0, rfl, by simp, by show (0 : Int).natAbs < 2 ^ 1; decide⟩) (by omega) z
theorem NumQ.zero : NumQ K H (.int 0) 0 1 := .inr ⟨0, rfl, by simp, by show (0 : Int).natAbs < 2 ^ 1; decide⟩
theorem overx_Q (h : IsQ K H a q m) (k : NumQ K H v 0 l) (h2 : l ≤ 4000) (z : ∀ H', G.Kp H H' → E (.ref (He.ga K "NoDivisor")) none H') : spx_over K [.ref a, v] H Q E := ⟨a, q, m, v, l, rfl, h, k, h2, z⟩
theorem cmpQ_i (h : IsQ K H a q m) (k : G.Bd l i) (h2 : l ≤ 4000) (z : ∀ H', G.Kp H H' → Q (.bl (fb q i)) H') : G.rCmpRf (He.ga K "Ratio") (sp_cmpQ K fb) E (.int i) (.ref a) H Q :=
  let ⟨dx, e⟩ := h.r.at_
  ⟨i, a, dx, _, rfl, rfl, e, a, q, m, .int i, i, l, rfl, h, .of_i k, h2, z⟩
theorem neQ_Q (T : Tx K mg) (h : IsQ K H a q m) (k : NumQ K H v r l) (h2 : l ≤ 4000) (z : ∀ H', G.Kp H H' → Q (.bl (!decide (q = r))) H') : G.rNeO K (He.ga K "Ratio") (sp_cmpQ K fun q r => decide (q = r)) E (.ref a) v H Q :=
  let ⟨dx, e⟩ := h.r.at_
  let ⟨tv, ty, nf⟩ := k.ty T
  ⟨a, dx, _, tv, rfl, e, ty, nf, a, q, m, v, r, l, rfl, h, k, h2, fun H' z2 => ⟨_, rfl, z H' z2⟩⟩
theorem neQ_i (h : IsQ K H a q m) (k : G.Bd l i) (h2 : l ≤ 4000) (z : ∀ H', G.Kp H H' → Q (.bl (!decide (q = (i : Rat)))) H') : G.rNeRf (He.ga K "Ratio") (sp_cmpQ K fun q r => decide (q = r)) E (.int i) (.ref a) H Q :=
  let ⟨dx, e⟩ := h.r.at_
  ⟨i, a, dx, _, rfl, rfl, e, a, q, m, .int i, i, l, rfl, h, .of_i k, h2, fun H' z2 => ⟨_, rfl, z H' z2⟩⟩
theorem num_q {k : Int} (h : NumQ K H v r l) (e : l ≤ 4000) : Num K H v r.num r.den := h.num e
end
end Lw

local macro_rules | `(tactic| walk_at "gx") => `(tactic| first
  | ((with_reducible refine Lw.is_number_i ?h ?_); (case h => walk_at "bdw"))
  | ((with_reducible refine Lw.is_number_R (t := ?z0) (b := ?z1) ?h ?_); (case h => walk_at "hp"))
  | ((with_reducible refine Lw.is_number_n (t := ?z0) (b := ?z1) ?h ?_); (case h => walk_at "hp"))
  | ((with_reducible refine Lw.mk_Rs ?h1 ?h2 ?h3 ?h4 ?_); (case h1 => first | assumption | omega); (case h2 => assumption); (case h3 => walk_at "bdw"); (case h4 => walk_at "bdw"); intro _ _ _ _ _)
  | ((with_reducible refine Lw.mk_R ?h1 ?h3 ?h4 ?_); (case h1 => first | assumption | omega); (case h3 => walk_at "bdw"); (case h4 => walk_at "bdw"); intro _ _ _ _ _ _ _ _))

-- k03: is_number
local macro_rules | `(tactic| walk_at "gx") => `(tactic| first
  | ((with_reducible refine Lw.is_numberN_q (r := ?z0) (l := ?z1) ?h ?e ?_); (case h => walk_at "hp"); (case e => first | omega | decide +kernel))
  | ((with_reducible refine Lw.is_numberN_o (ty := ?z0) ?h ?_); (case h => walk_at "hp")))

-- Ratios as rational numbers
local macro_rules | `(tactic| walk_at "hp") => `(tactic| first
  | (refine Lw.IsQ.kp (by assumption) ?_; walk_at "hp")
  | (refine Lw.IsQ.md (by assumption) ?_; walk_at "hp")
  | (refine Lw.NumQ.kp (by assumption) ?_; walk_at "hp")
  | (refine Lw.NumQ.md (by assumption) ?_; walk_at "hp")
  | (refine Lw.NumQ.of_q ?_; walk_at "hp")
  | ((with_reducible refine Lw.NumQ.of_i (m := ?zm) ?zb); (case zb => walk_at "bd"))
  | ((with_reducible refine Lw.IsQ.r (q := ?zq) (m := ?zm) ?zh); (case zh => walk_at "hp")))
local macro_rules | `(tactic| walk_at "gx") => `(tactic| first
  | ((with_reducible refine Lw.bin_QQ (q := ?z0) (m := ?z1) (r := ?z2) (l := ?z3) ?h ?k ?h1 ?h2 ?h3 ?_); (case h => walk_at "hp"); (case k => walk_at "hp"); (case h1 => first | omega | (simp only [Lw.gmul, Lw.gadd]; omega) | decide +kernel); (case h2 => first | omega | (simp only [Lw.gmul, Lw.gadd]; omega) | decide +kernel); (case h3 => first | omega | (simp only [Lw.gmul, Lw.gadd]; omega) | decide +kernel); intro _ _ _ _ _)
  | ((with_reducible refine Lw.bin_Qi (q := ?z0) (m := ?z1) (l := ?z3) ?h ?k ?h1 ?h2 ?h3 ?_); (case h => walk_at "hp"); (case k => walk_at "bd"); (case h1 => first | omega | (simp only [Lw.gmul, Lw.gadd]; omega) | decide +kernel); (case h2 => first | omega | (simp only [Lw.gmul, Lw.gadd]; omega) | decide +kernel); (case h3 => first | omega | (simp only [Lw.gmul, Lw.gadd]; omega) | decide +kernel); intro _ _ _ _ _)
  | ((with_reducible refine Lw.bin_iQ (q := ?z0) (m := ?z1) (l := ?z3) ?h ?k ?h1 ?h2 ?h3 ?_); (case h => walk_at "hp"); (case k => walk_at "bd"); (case h1 => first | omega | (simp only [Lw.gmul, Lw.gadd]; omega) | decide +kernel); (case h2 => first | omega | (simp only [Lw.gmul, Lw.gadd]; omega) | decide +kernel); (case h3 => first | omega | (simp only [Lw.gmul, Lw.gadd]; omega) | decide +kernel); intro _ _ _ _ _)
  | ((with_reducible refine Lw.fdiv_QQ (q := ?z0) (m := ?z1) (r := ?z2) (l := ?z3) ?h ?k ?h0 ?h1 ?h2 ?h3 ?_); (case h => walk_at "hp"); (case k => walk_at "hp"); (case h0 => assumption); (case h1 => first | omega | (simp only [Lw.gmul, Lw.gadd]; omega) | decide +kernel); (case h2 => first | omega | (simp only [Lw.gmul, Lw.gadd]; omega) | decide +kernel); (case h3 => first | omega | (simp only [Lw.gmul, Lw.gadd]; omega) | decide +kernel); intro _ _)
  | ((with_reducible refine Lw.fdiv_Qi (q := ?z0) (m := ?z1) (l := ?z3) ?h ?k ?h0 ?h1 ?h2 ?h3 ?_); (case h => walk_at "hp"); (case k => walk_at "bd"); (case h0 => assumption); (case h1 => first | omega | (simp only [Lw.gmul, Lw.gadd]; omega) | decide +kernel); (case h2 => first | omega | (simp only [Lw.gmul, Lw.gadd]; omega) | decide +kernel); (case h3 => first | omega | (simp only [Lw.gmul, Lw.gadd]; omega) | decide +kernel); intro _ _)
  | ((with_reducible refine Lw.mod_QQ (q := ?z0) (m := ?z1) (r := ?z2) (l := ?z3) ?h ?k ?h0 ?h1 ?h2 ?h3 ?_); (case h => walk_at "hp"); (case k => walk_at "hp"); (case h0 => assumption); (case h1 => first | omega | (simp only [Lw.gmul, Lw.gadd]; omega) | decide +kernel); (case h2 => first | omega | (simp only [Lw.gmul, Lw.gadd]; omega) | decide +kernel); (case h3 => first | omega | (simp only [Lw.gmul, Lw.gadd]; omega) | decide +kernel); intro _ _ _ _ _)
  | ((with_reducible refine Lw.mod_Qi (q := ?z0) (m := ?z1) (l := ?z3) ?h ?k ?h0 ?h1 ?h2 ?h3 ?_); (case h => walk_at "hp"); (case k => walk_at "bd"); (case h0 => assumption); (case h1 => first | omega | (simp only [Lw.gmul, Lw.gadd]; omega) | decide +kernel); (case h2 => first | omega | (simp only [Lw.gmul, Lw.gadd]; omega) | decide +kernel); (case h3 => first | omega | (simp only [Lw.gmul, Lw.gadd]; omega) | decide +kernel); intro _ _ _ _ _)
  | ((with_reducible refine Lw.neg_Q (q := ?z0) (m := ?z1) ?h ?_); (case h => walk_at "hp"); intro _ _ _ _ _)
  | ((with_reducible refine Lw.abs_Q (q := ?z0) (m := ?z1) ?h ?_); (case h => walk_at "hp"); intro _ _ _ _ _)
  | ((with_reducible refine Lw.of_Q (r := ?z0) (l := ?z1) ?h ?h1 ?h2 ?_); (case h => walk_at "hp"); (case h1 => first | omega | (simp only [Lw.gmul, Lw.gadd]; omega) | decide +kernel); (case h2 => first | omega | (simp only [Lw.gmul, Lw.gadd]; omega) | decide +kernel); intro _ _ _ _ _)
  | ((with_reducible refine Lw.over_Q (q := ?z0) (m := ?z1) (r := ?z2) (l := ?z3) ?h ?k ?h0 ?h1 ?h2 ?h3 ?_); (case h => walk_at "hp"); (case k => walk_at "hp"); (case h0 => assumption); (case h1 => first | omega | (simp only [Lw.gmul, Lw.gadd]; omega) | decide +kernel); (case h2 => first | omega | (simp only [Lw.gmul, Lw.gadd]; omega) | decide +kernel); (case h3 => first | omega | (simp only [Lw.gmul, Lw.gadd]; omega) | decide +kernel); intro _ _ _ _ _)
  | ((with_reducible refine Lw.rc_over (q := ?z0) (m := ?z1) ?h ?_); (case h => walk_at "hp"))
  | ((with_reducible refine Lw.cmpQ_Q (q := ?z0) (m := ?z1) (r := ?z2) (l := ?z3) (by assumption) ?h ?k ?h2 ?_); (case h => walk_at "hp"); (case k => walk_at "hp"); (case h2 => first | omega | (simp only [Lw.gmul, Lw.gadd]; omega) | decide +kernel); intro _ _)
  | ((with_reducible refine Lw.cmpQ_i (q := ?z0) (m := ?z1) (l := ?z3) ?h ?k ?h2 ?_); (case h => walk_at "hp"); (case k => walk_at "bd"); (case h2 => first | omega | (simp only [Lw.gmul, Lw.gadd]; omega) | decide +kernel); intro _ _)
  | ((with_reducible refine Lw.neQ_Q (q := ?z0) (m := ?z1) (r := ?z2) (l := ?z3) (by assumption) ?h ?k ?h2 ?_); (case h => walk_at "hp"); (case k => walk_at "hp"); (case h2 => first | omega | (simp only [Lw.gmul, Lw.gadd]; omega) | decide +kernel); intro _ _)
  | ((with_reducible refine Lw.neQ_i (q := ?z0) (m := ?z1) (l := ?z3) ?h ?k ?h2 ?_); (case h => walk_at "hp"); (case k => walk_at "bd"); (case h2 => first | omega | (simp only [Lw.gmul, Lw.gadd]; omega) | decide +kernel); intro _ _))
local macro_rules | `(tactic| walk_at "gx") => `(tactic| ((with_reducible refine Lw.cmpQ_0 (q := ?z0) (m := ?z1) (by assumption) ?h ?_); (case h => walk_at "hp"); intro _ _))

namespace Lw
open PySem PySem.Spec PyProof.Rows L2
/-! ### two numbers compared; simplest's promises -/
section
variable {P : Program} {w : World} {K : PySem.W.Frag} {mg : Str → Option Value} {base : Heap} {H H' : Hp} {Q : VK} {E : XK} {a p x y : Addr} {t b n d i j : Int} {v u : V} {q r f : Rat} {m l : Nat}
theorem st_nT {A B : Prop} (q : B) : if (!true) = true then A else B := q
theorem st_nF {A B : Prop} (q : A) : if (!false) = true then A else B := q
theorem dF {p : Prop} [Decidable p] (h : ¬ p) {A B : Prop} (q : B) : if decide p = true then A else B := by rw [decide_eq_false h]; exact q
theorem dT {p : Prop} [Decidable p] (h : p) {A B : Prop} (q : A) : if decide p = true then A else B := by rw [decide_eq_true h]; exact q
theorem dN {p : Prop} [Decidable p] (h : p) {A B : Prop} (q : B) : if (!decide p) = true then A else B := by rw [decide_eq_true h]; exact q
theorem NumQ.one : NumQ K H (.int 1) 1 1 := .inr ⟨1, rfl, by simp, by show (1 : Int).natAbs < 2 ^ 1; decide⟩
theorem num_lt (T : Tx K mg) (hv : NumQ K H v q m) (hu : NumQ K H u r l) (h1 : m ≤ 4000) (h2 : l ≤ 4000) (z : ∀ H', G.Kp H H' → Q (.bl (decide (q < r))) H') :
    G.rOr G.rLtG (G.rOr (G.rCmpO K (He.ga K "Ratio") (sp_cmpQ K fun q r => decide (q < r)) E) (G.rCmpRf (He.ga K "Ratio") (sp_cmpQ K fun q r => decide (r < q)) E)) v u H Q := by
  rcases hv with ⟨a, rfl, ha⟩ | ⟨i, rfl, rfl, bi⟩
  · exact .inr (.inl (cmpQ_Q T ha hu h2 z))
  · rcases hu with ⟨b, rfl, hb⟩ | ⟨j, rfl, rfl, bj⟩
    · exact .inr (.inr (cmpQ_i hb bi h1 z))
    · refine .inl (G.lt_ii ?_)
      rw [show decide (i < j) = decide ((i : Rat) < (j : Rat)) by rw [decide_eq_decide, Rat.intCast_lt_intCast]]
      exact z _ G.Kp.refl
theorem num_gt (T : Tx K mg) (hv : NumQ K H v q m) (hu : NumQ K H u r l) (h1 : m ≤ 4000) (h2 : l ≤ 4000) (z : ∀ H', G.Kp H H' → Q (.bl (decide (r < q))) H') :
    G.rOr G.rGtG (G.rOr (G.rCmpO K (He.ga K "Ratio") (sp_cmpQ K fun q r => decide (r < q)) E) (G.rCmpRf (He.ga K "Ratio") (sp_cmpQ K fun q r => decide (q < r)) E)) v u H Q := by
  rcases hv with ⟨a, rfl, ha⟩ | ⟨i, rfl, rfl, bi⟩
  · exact .inr (.inl (cmpQ_Q T ha hu h2 z))
  · rcases hu with ⟨b, rfl, hb⟩ | ⟨j, rfl, rfl, bj⟩
    · exact .inr (.inr (cmpQ_i hb bi h1 z))
    · refine .inl (G.gt_ii ?_)
      rw [show decide (j < i) = decide ((j : Rat) < (i : Rat)) by rw [decide_eq_decide, Rat.intCast_lt_intCast]]
      exact z _ G.Kp.refl
theorem num_leN (T : Tx K mg) (hv : NumQ K H v q m) (hu : NumQ K H u r l) (h1 : m ≤ 4000) (h2 : l ≤ 4000) (z : ∀ H', G.Kp H H' → Q (.bl (decide (q ≤ r))) H') :
    G.rOr G.rLeG (G.rOr (G.rCmpO K (He.ga K "Ratio") (sp_cmpQ K fun q r => decide (q ≤ r)) E) (G.rCmpRf (He.ga K "Ratio") (sp_cmpQ K fun q r => decide (r ≤ q)) E)) v u H Q := by
  rcases hv with ⟨a, rfl, ha⟩ | ⟨i, rfl, rfl, bi⟩
  · exact .inr (.inl (cmpQ_Q T ha hu h2 z))
  · rcases hu with ⟨b, rfl, hb⟩ | ⟨j, rfl, rfl, bj⟩
    · exact .inr (.inr (cmpQ_i hb bi h1 z))
    · refine .inl (G.le_ii ?_)
      rw [show decide (i ≤ j) = decide ((i : Rat) ≤ (j : Rat)) by rw [decide_eq_decide, Rat.intCast_le_intCast]]
      exact z _ G.Kp.refl
theorem num_ge (T : Tx K mg) (hv : NumQ K H v q m) (hu : NumQ K H u r l) (h1 : m ≤ 4000) (h2 : l ≤ 4000) (z : ∀ H', G.Kp H H' → Q (.bl (decide (r ≤ q))) H') :
    G.rOr G.rGeG (G.rOr (G.rCmpO K (He.ga K "Ratio") (sp_cmpQ K fun q r => decide (r ≤ q)) E) (G.rCmpRf (He.ga K "Ratio") (sp_cmpQ K fun q r => decide (q ≤ r)) E)) v u H Q := by
  rcases hv with ⟨a, rfl, ha⟩ | ⟨i, rfl, rfl, bi⟩
  · exact .inr (.inl (cmpQ_Q T ha hu h2 z))
  · rcases hu with ⟨b, rfl, hb⟩ | ⟨j, rfl, rfl, bj⟩
    · exact .inr (.inr (cmpQ_i hb bi h1 z))
    · refine .inl (G.ge_ii ?_)
      rw [show decide (j ≤ i) = decide ((j : Rat) ≤ (i : Rat)) by rw [decide_eq_decide, Rat.intCast_le_intCast]]
      exact z _ G.Kp.refl
def sp_simplest (K : PySem.W.Frag) : Sp := fun vs H Q _ => ∃ v u q r m l, vs = [v, u] ∧ NumQ K H v q m ∧ NumQ K H u r l ∧ 1 ≤ m ∧ m ≤ 900 ∧ 1 ≤ l ∧ l ≤ 900 ∧ 0 ≤ q ∧ q < r ∧ r ≤ 1 ∧ ∀ z H' f, H z = none → G.Kp H H' → IsQ K H' z f (m + l + 2) → M10.SimpleQ q r f → Q (.ref z) H'
/-- a value from which no stretch begins or ends: no number, or one below 0 or above 1 -/
def OutV (K : PySem.W.Frag) (H : Hp) (v : V) : Prop := (∃ ty, OddV H v ty) ∨ ∃ q, NumQ K H v q 200 ∧ (q < 0 ∨ 1 < q)
theorem OutV.kp (k : G.Kp H H') (h : OutV K H v) : OutV K H' v := h.elim (fun ⟨t, o⟩ => .inl ⟨t, o.kp k⟩) fun ⟨q, r, e⟩ => .inr ⟨q, r.kp k, e⟩
theorem OutV.md (k : G.Md p H H') (h : OutV K H v) : OutV K H' v := h.elim (fun ⟨t, o⟩ => .inl ⟨t, o.md k⟩) fun ⟨q, r, e⟩ => .inr ⟨q, r.md k, e⟩
def spx_simplest (K : PySem.W.Frag) : Sp := fun vs H _ E => ∃ v u, vs = [v, u] ∧ ((OutV K H v ∧ XE1 K E H "BadRatio" (.str "low")) ∨ (∃ q, NumQ K H v q 200 ∧ 0 ≤ q ∧ q ≤ 1 ∧ ((∃ ty, OddV H u ty) ∨ ∃ r, NumQ K H u r 200 ∧ (¬ r < 0 → ¬ 1 < r → r ≤ q)) ∧ XE1 K E H "BadRatio" (.str "high")))
theorem simplest_n (hv : NumQ K H v q m) (hu : NumQ K H u r l) (h1 : 1 ≤ m) (h2 : m ≤ 900) (k1 : 1 ≤ l) (k2 : l ≤ 900) (h3 : 0 ≤ q) (h4 : q < r) (h5 : r ≤ 1) (z : ∀ z H' f, H z = none → G.Kp H H' → IsQ K H' z f (m + l + 2) → M10.SimpleQ q r f → Q (.ref z) H') : sp_simplest K [v, u] H Q E := ⟨v, u, q, r, m, l, rfl, hv, hu, h1, h2, k1, k2, h3, h4, h5, z⟩
theorem simplestx_l (h : OutV K H v) (z : XE1 K E H "BadRatio" (.str "low")) : spx_simplest K [v, u] H Q E := ⟨v, u, rfl, .inl ⟨h, z⟩⟩
theorem OutV.high (h : OutV K H u) : (∃ ty, OddV H u ty) ∨ ∃ r, NumQ K H u r 200 ∧ (¬ r < 0 → ¬ 1 < r → r ≤ q) := h.elim .inl fun ⟨r, h, n⟩ => .inr ⟨r, h, fun x y => absurd n (by simp [x, y])⟩
theorem simplestx_h (hv : NumQ K H v q 200) (h0 : 0 ≤ q) (h1 : q ≤ 1) (h : (∃ ty, OddV H u ty) ∨ ∃ r, NumQ K H u r 200 ∧ (¬ r < 0 → ¬ 1 < r → r ≤ q)) (z : XE1 K E H "BadRatio" (.str "high")) : spx_simplest K [v, u] H Q E := ⟨v, u, rfl, .inr ⟨q, hv, h0, h1, h, z⟩⟩
end
end Lw

-- k03: the sum
local macro_rules | `(tactic| walk_at "hp") => `(tactic| first
  | (refine Lw.NumsQ.kp (by assumption) ?_; walk_at "hp")
  | (refine Lw.NumsQ.md (by assumption) ?_; walk_at "hp"))
local macro_rules | `(tactic| walk_at "gx") => `(tactic| first
  | ((with_reducible refine Lw.total_x (q := ?z2) (xs := ?z0) (qs := ?z1) ?h ?n ?l ?e ?_); (case h => first | exact .inl (by walk_at "hp") | exact .inr (by walk_at "hp")); (case n => first | walk_at "hp" | (refine Lw.NumsQ.rev ?_; walk_at "hp")); (case l => (first | assumption | (rw [List.length_reverse]; assumption))); (case e => first | exact Lw.sumQ_rev _ | rfl); intro _ _ _ _ _))
-- as far as it goes, but no comparison of objects
local macro_rules | `(tactic| walk_at "gor") => `(tactic| repeat' ((fail_if_success (with_reducible show G.rOr _ (G.rNeG _) (.ref _) (.ref _) _ _)); first | walk_at "g" | walk_at "gl" | walk_at "gif"))
-- numbers in a later heap: straight down the chain
local macro_rules | `(tactic| walk_at "hi") => `(tactic| first
  | assumption
  | (refine Lw.IsQ.kp (by assumption) ?_; walk_at "hi")
  | (refine Lw.IsQ.md (by assumption) ?_; walk_at "hi"))
local macro_rules | `(tactic| walk_at "hn") => `(tactic| first
  | assumption
  | (refine Lw.NumQ.kp (by assumption) ?_; walk_at "hn")
  | (refine Lw.NumQ.md (by assumption) ?_; walk_at "hn"))
local macro_rules | `(tactic| walk_at "hp") => `(tactic| first
  | (with_reducible refine Lw.NumQ.of_q (q := ?zq) (m := ?zm) ?zh; case zh => walk_at "hi")
  | (refine Lw.IsQ.kp (by assumption) ?_; walk_at "hi")
  | (refine Lw.IsQ.md (by assumption) ?_; walk_at "hi")
  | (refine Lw.NumQ.kp (by assumption) ?_; walk_at "hn")
  | (refine Lw.NumQ.md (by assumption) ?_; walk_at "hn"))

-- k10: two numbers compared
local macro_rules | `(tactic| walk_at "nb") => `(tactic| first
  | exact Lw.NumQ.zero
  | exact Lw.NumQ.one
  | walk_at "hn"
  | walk_at "hp")
local macro_rules | `(tactic| walk_at "gx") => `(tactic| first
  | ((fail_if_success (with_reducible show G.rOr _ _ (.int _) (.int _) _ _)); (with_reducible refine Lw.num_lt (q := ?z0) (r := ?z1) (m := ?z2) (l := ?z3) (by assumption) ?h ?k ?h1 ?h2 ?_); (case h => walk_at "nb"); (case k => walk_at "nb"); (case h1 => first | omega | decide); (case h2 => first | omega | decide); intro _ _)
  | ((fail_if_success (with_reducible show G.rOr _ _ (.int _) (.int _) _ _)); (with_reducible refine Lw.num_gt (q := ?z0) (r := ?z1) (m := ?z2) (l := ?z3) (by assumption) ?h ?k ?h1 ?h2 ?_); (case h => walk_at "nb"); (case k => walk_at "nb"); (case h1 => first | omega | decide); (case h2 => first | omega | decide); intro _ _)
  | ((fail_if_success (with_reducible show G.rOr _ _ (.int _) (.int _) _ _)); (with_reducible refine Lw.num_ge (q := ?z0) (r := ?z1) (m := ?z2) (l := ?z3) (by assumption) ?h ?k ?h1 ?h2 ?_); (case h => walk_at "nb"); (case k => walk_at "nb"); (case h1 => first | omega | decide); (case h2 => first | omega | decide); intro _ _)
  | ((fail_if_success (with_reducible show G.rOr _ _ (.int _) (.int _) _ _)); (with_reducible refine Lw.num_leN (q := ?z0) (r := ?z1) (m := ?z2) (l := ?z3) (by assumption) ?h ?k ?h1 ?h2 ?_); (case h => walk_at "nb"); (case k => walk_at "nb"); (case h1 => first | omega | decide); (case h2 => first | omega | decide); intro _ _)
  | ((with_reducible refine Lw.is_numberN_q (r := ?z0) (l := ?z1) ?h ?e ?_); (case h => first | walk_at "hn" | walk_at "hp"); (case e => first | omega | decide +kernel))
  | ((with_reducible refine Lw.is_numberN_o (ty := ?z0) ?h ?_); (case h => walk_at "hp"))
  | with_reducible refine Lw.st_nT ?_
  | with_reducible refine Lw.st_nF ?_)

namespace Lw
open PySem PySem.Spec PyProof.Rows L2
/-! ### pieces, their ends as rational numbers -/
section
variable {P : Program} {w : World} {K : PySem.W.Frag} {mg : Str → Option Value} {base : Heap} {H H' : Hp} {Q : VK} {E : XK} {p a b x o y : Addr} {v u : V} {q r : Rat} {m l : Nat}
structure IsPQ (K : PySem.W.Frag) (H : Hp) (p a b : Addr) (q r : Rat) (m l : Nat) : Prop where
  at_ : ∃ dx, H p = some (.ins (He.ga K "Piece") dx [("left", .ref a), ("right", .ref b)])
  il : IsQ K H a q m
  ir : IsQ K H b r l
  nb : (q.den : Int) * r.num - q.num * r.den = 1
  h0 : 0 ≤ q
  h1 : q < 1
  h2 : 0 < r
  h3 : r ≤ 1
  m9 : m ≤ 900
  l9 : l ≤ 900
theorem IsPQ.kp (k : G.Kp H H') (h : IsPQ K H p a b q r m l) : IsPQ K H' p a b q r m l := ⟨let ⟨dx, e⟩ := h.at_; ⟨dx, k _ _ e⟩, h.il.kp k, h.ir.kp k, h.nb, h.h0, h.h1, h.h2, h.h3, h.m9, h.l9⟩
theorem IsPQ.md (k : G.Md y H H') (h : IsPQ K H p a b q r m l) : IsPQ K H' p a b q r m l := ⟨let ⟨dx, e⟩ := h.at_; ⟨dx, k.ins e⟩, h.il.md k, h.ir.md k, h.nb, h.h0, h.h1, h.h2, h.h3, h.m9, h.l9⟩
theorem IsQ.mi (k : G.Mi x H H') (n : p ≠ x) (h : IsQ K H p q m) : IsQ K H' p q m := ⟨⟨let ⟨dx, e⟩ := h.r.at_; ⟨dx, k.at e n⟩, h.r.pos, h.r.cop, h.r.bt, h.r.bb⟩, h.bn, h.bd⟩
theorem NumQ.mi (k : G.Mi x H H') (n : v ≠ .ref x) (h : NumQ K H v q m) : NumQ K H' v q m := h.elim (fun ⟨a, e, r⟩ => .inl ⟨a, e, r.mi k fun z => n (by rw [e, z])⟩) .inr
theorem IsQ.ne_fs {C dx : Addr} {fs : List (Str × V)} (h : IsQ K H p q m) (e : H x = some (.ins C dx fs)) (n : fs.length < 2) : p ≠ x := fun z => by
  obtain ⟨d2, e2⟩ := h.r.at_
  rw [z, e] at e2
  cases e2
  simp at n
theorem NumQ.ne_fs {C dx : Addr} {fs : List (Str × V)} (h : NumQ K H v q m) (e : H x = some (.ins C dx fs)) (n : fs.length < 2) : v ≠ .ref x := by
  rcases h with ⟨a, rfl, h⟩ | ⟨i, rfl, _⟩
  · intro z
    cases z
    exact h.ne_fs e n rfl
  · intro z
    cases z
theorem lk3 {x y : V} : List.lookup ("left" : Str) ([("left", x), ("right", y)] : List (Str × V)) = some x := by simp [List.lookup]
theorem lk4 {x y : V} : List.lookup ("right" : Str) ([("left", x), ("right", y)] : List (Str × V)) = some y := by
  have e : (("right" : Str) == "left") = false := by decide +kernel
  simp [List.lookup, e]
theorem fld_left (T : Tx K mg) (h : IsPQ K H p a b q r m l) (z : Q (.ref a) H) : G.FldK K "left" (.ref p) H Q := let ⟨_, e⟩ := h.at_; G.st_fldK e (cl_Piece T) (na_Piece_left T) lk3 z
theorem fld_right (T : Tx K mg) (h : IsPQ K H p a b q r m l) (z : Q (.ref b) H) : G.FldK K "right" (.ref p) H Q := let ⟨_, e⟩ := h.at_; G.st_fldK e (cl_Piece T) (na_Piece_right T) lk4 z
theorem pf_P {x y : V} : putF ("right" : Str) y (putF ("left" : Str) x []) = ([("left", x), ("right", y)] : List (Str × V)) := by
  have e : ¬ (("left" : Str) = "right") := by decide +kernel
  show (if ("left" : Str) = "right" then [(("left" : Str), y)] else (("left" : Str), x) :: putF "right" y []) = ([("left", x), ("right", y)] : List (Str × V))
  rw [if_neg e]
  rfl
/-- what makes a piece -/
structure Nb (q r : Rat) (m l : Nat) : Prop where
  nb : (q.den : Int) * r.num - q.num * r.den = 1
  h0 : 0 ≤ q
  h1 : q < 1
  h2 : 0 < r
  h3 : r ≤ 1
  m1 : 1 ≤ m
  l1 : 1 ≤ l
  m9 : m ≤ 900
  l9 : l ≤ 900
def sp_Piece_init (K : PySem.W.Frag) : Sp := fun vs H Q _ => ∃ x dx v u q r m l, vs = [.ref x, v, u] ∧ H x = some (.ins (He.ga K "Piece") dx []) ∧ NumQ K H v q m ∧ NumQ K H u r l ∧ Nb q r m l ∧ ∀ a b H', G.Mi x H H' → IsPQ K H' x a b q r m l → Q .non H'
theorem mk_PQ (hv : NumQ K H v q m) (hu : NumQ K H u r l) (nb : Nb q r m l) (z : ∀ x a b H', H x = none → G.Kp H H' → IsPQ K H' x a b q r m l → Q (.ref x) H') : G.MakeK (He.ga K "Piece") (sp_Piece_init K) [] E [v, u] H Q :=
  G.st_mkK fun x dx H1 hn k hx => ⟨x, dx, v, u, q, r, m, l, rfl, hx, hv.kp k, hu.kp k, nb, fun a b H' j ip => ⟨rfl, z x a b H' hn (G.Kp.mi hn k j) ip⟩⟩
end
end Lw

namespace Lw
open PySem PySem.Spec PyProof.Rows L2
section
variable {P : Program} {w : World} {K : PySem.W.Frag} {mg : Str → Option Value} {base : Heap} {q r : Rat} {m l : Nat}
theorem ok_Ratio_is_number (T : Tx K mg) : G.FnG P w K mg base CX0 2 (a_Ratio_is_number K) (G.fdOf K (a_Ratio_is_number K)) ["value"] (sp_is_numberN K) := by
  refine G.ok_of (F_Ratio_is_number T) sc_Ratio_is_number (fun vs H Q E h => ?_) (fun cdv A outer s H vs Q E hr h => ?_)
  · obtain ⟨v, rfl, _⟩ := h
    rfl
  · obtain ⟨v, rfl, h⟩ := h
    refine ⟨_, (pss_one (ps_ret (pe_or (pe_callB G.call_isiG (by rfl) (fr_isinstance T) boot_isinstance (pa_cons (pv 0) (pa_cons (G.pe_cl rfl (gl_Ratio T)) pa_nil))) (pe_one (G.pe_callG (okN_is_integer T) (hr.mono (by first | decide | omega)) rfl (gl_is_integer T) (F_is_integer T).kp (bi_is_integer T) .nil pass0 (pa_cons (pv 0) pa_nil)))))), ?_⟩
    walk_at "start"
    rcases h with ⟨r, l, ⟨a, rfl, ha⟩ | ⟨i, rfl, _⟩, _, q⟩ | ⟨ty, ho, q⟩
    · have har := ha.r
      walk_at "gob"
      exact q
    · walk_at "gob"
      exact q
    · walk_at "gob"
      exact q
theorem ok_Ratio_of (T : Tx K mg) : G.FnG P w K mg base CX0 4 (a_Ratio_of K) (G.fdOf K (a_Ratio_of K)) ["number"] (sp_ofQ K) := by
  refine G.ok_of (F_Ratio_of T) sc_Ratio_of (fun vs H Q E h => ?_) (fun cdv A outer s H vs Q E hr h => ?_)
  · obtain ⟨v, r, l, rfl, _⟩ := h
    rfl
  · obtain ⟨v, r, l, rfl, hv, l1, l2, k⟩ := h
    have hvn := hv.num l2
    have b3 := hv.bn
    have b4 := hv.bd l1
    have hp := den_pos r
    have hc := hvn.cop
    refine ⟨_, (pss_cons (ps_if (pt_not (pt_val (G.pe_smeth (G.pe_cl rfl (gl_Ratio T)) (rd_Ratio T) (sm_Ratio_is_number T) (ok_Ratio_is_number T) (hr.mono (by first | decide | omega)) (bi_Ratio_is_number T) .nil pass0 (pa_cons (pv 0) pa_nil)))) (pss_one ps_never) pss_nil)
    (pss_cons (ps_asg (G.pe_callG (ok_parts_of T) (hr.mono (by first | decide | omega)) rfl (gl_parts_of T) (F_parts_of T).kp (bi_parts_of T) .nil pass0 (pa_cons (pv 0) pa_nil)) (pg_tup (n := 2) (by rfl) (pgs_cons (pg_name (i := 1) sc_Ratio_of.nd rfl (Or.inl rfl)) (pgs_cons (pg_name (i := 2) sc_Ratio_of.nd rfl (Or.inl rfl)) pgs_nil))))
    (pss_one (ps_ret (G.pe_makeG (mk_Ratio T) (ok_Ratio_init T) (hr.mono (by first | decide | omega)) rfl (gl_Ratio T) (bi_Ratio_init T) .nil pass0 (pa_cons (pv 1) (pa_cons (pv 2) pa_nil))))))), ?_⟩
    walk_at "start"
    walk_at "gob"
    exact k _ _ (by walk_at "fr") (by walk_at "kp") ⟨by assumption, b3, b4⟩
theorem qabs_num (q : Rat) : (qabs q).num = ((q.num.natAbs : Nat) : Int) ∧ (qabs q).den = q.den := by
  unfold qabs
  have e : q < 0 ↔ q.num < 0 := by
    have := @Rat.num_nonneg q
    constructor
    · intro h
      have z : ¬ 0 ≤ q := fun z => by grind
      have : ¬ 0 ≤ q.num := fun y => z (this.mp y)
      omega
    · intro h
      have z : ¬ 0 ≤ q := fun z => by have := this.mpr z; omega
      grind
  by_cases h : q < 0
  · rw [if_pos h]
    have := e.mp h
    exact ⟨by rw [Rat.neg_num]; omega, Rat.neg_den _⟩
  · rw [if_neg h]
    have : ¬ q.num < 0 := fun z => h (e.mpr z)
    exact ⟨by omega, rfl⟩
theorem ok_Ratio_lt (T : Tx K mg) : G.FnG P w K mg base CX0 2 (a_Ratio_lt K) (G.fdOf K (a_Ratio_lt K)) ["self", "other"] (sp_cmpQ K fun q r => decide (q < r)) := by
  refine G.ok_of (F_Ratio_lt T) sc_Ratio_lt (fun vs H Q E h => ?_) (fun cdv A outer s H vs Q E hr h => ?_)
  · obtain ⟨a, q, m, v, r, l, rfl, _⟩ := h
    rfl
  · obtain ⟨a, q, m, v, r, l, rfl, ha, hv, l9, k⟩ := h
    have har := ha.r
    have hvn := hv.num l9
    have h1 := har.bt
    have h2 := har.bb
    have h3 := hvn.bt
    have h4 := hvn.bb
    dsimp only at k
    rw [← lt_dec q r] at k
    refine ⟨_, (pss_cons (ps_asg (G.pe_callG (ok_parts_of T) (hr.mono (by first | decide | omega)) rfl (gl_parts_of T) (F_parts_of T).kp (bi_parts_of T) .nil pass0 (pa_cons (pv 1) pa_nil)) (pg_tup (n := 2) (by rfl) (pgs_cons (pg_name (i := 2) sc_Ratio_lt.nd rfl (Or.inl rfl)) (pgs_cons (pg_name (i := 3) sc_Ratio_lt.nd rfl (Or.inl rfl)) pgs_nil))))
    (pss_one (ps_ret (pe_cmpR G.op_ltG (pe_op G.op_mulG (pe_fld (pv 0) rfl) (pv 3)) (pe_op G.op_mulG (pv 2) (pe_fld (pv 0) rfl)) (nomark _))))), ?_⟩
    walk_at "start"
    walk_at "go"
    exact k _ (by assumption)
theorem ok_Ratio_le (T : Tx K mg) : G.FnG P w K mg base CX0 2 (a_Ratio_le K) (G.fdOf K (a_Ratio_le K)) ["self", "other"] (sp_cmpQ K fun q r => decide (q ≤ r)) := by
  refine G.ok_of (F_Ratio_le T) sc_Ratio_le (fun vs H Q E h => ?_) (fun cdv A outer s H vs Q E hr h => ?_)
  · obtain ⟨a, q, m, v, r, l, rfl, _⟩ := h
    rfl
  · obtain ⟨a, q, m, v, r, l, rfl, ha, hv, l9, k⟩ := h
    have har := ha.r
    have hvn := hv.num l9
    have h1 := har.bt
    have h2 := har.bb
    have h3 := hvn.bt
    have h4 := hvn.bb
    dsimp only at k
    rw [← le_dec q r] at k
    refine ⟨_, (pss_cons (ps_asg (G.pe_callG (ok_parts_of T) (hr.mono (by first | decide | omega)) rfl (gl_parts_of T) (F_parts_of T).kp (bi_parts_of T) .nil pass0 (pa_cons (pv 1) pa_nil)) (pg_tup (n := 2) (by rfl) (pgs_cons (pg_name (i := 2) sc_Ratio_le.nd rfl (Or.inl rfl)) (pgs_cons (pg_name (i := 3) sc_Ratio_le.nd rfl (Or.inl rfl)) pgs_nil))))
    (pss_one (ps_ret (pe_cmpR G.op_leG (pe_op G.op_mulG (pe_fld (pv 0) rfl) (pv 3)) (pe_op G.op_mulG (pv 2) (pe_fld (pv 0) rfl)) (nomark _))))), ?_⟩
    walk_at "start"
    walk_at "go"
    exact k _ (by assumption)
theorem ok_Ratio_gt (T : Tx K mg) : G.FnG P w K mg base CX0 2 (a_Ratio_gt K) (G.fdOf K (a_Ratio_gt K)) ["self", "other"] (sp_cmpQ K fun q r => decide (r < q)) := by
  refine G.ok_of (F_Ratio_gt T) sc_Ratio_gt (fun vs H Q E h => ?_) (fun cdv A outer s H vs Q E hr h => ?_)
  · obtain ⟨a, q, m, v, r, l, rfl, _⟩ := h
    rfl
  · obtain ⟨a, q, m, v, r, l, rfl, ha, hv, l9, k⟩ := h
    have har := ha.r
    have hvn := hv.num l9
    have h1 := har.bt
    have h2 := har.bb
    have h3 := hvn.bt
    have h4 := hvn.bb
    dsimp only at k
    rw [← lt_dec r q] at k
    refine ⟨_, (pss_cons (ps_asg (G.pe_callG (ok_parts_of T) (hr.mono (by first | decide | omega)) rfl (gl_parts_of T) (F_parts_of T).kp (bi_parts_of T) .nil pass0 (pa_cons (pv 1) pa_nil)) (pg_tup (n := 2) (by rfl) (pgs_cons (pg_name (i := 2) sc_Ratio_gt.nd rfl (Or.inl rfl)) (pgs_cons (pg_name (i := 3) sc_Ratio_gt.nd rfl (Or.inl rfl)) pgs_nil))))
    (pss_one (ps_ret (pe_cmpR G.op_gtG (pe_op G.op_mulG (pe_fld (pv 0) rfl) (pv 3)) (pe_op G.op_mulG (pv 2) (pe_fld (pv 0) rfl)) (nomark _))))), ?_⟩
    walk_at "start"
    walk_at "go"
    exact k _ (by assumption)
theorem ok_Ratio_ge (T : Tx K mg) : G.FnG P w K mg base CX0 2 (a_Ratio_ge K) (G.fdOf K (a_Ratio_ge K)) ["self", "other"] (sp_cmpQ K fun q r => decide (r ≤ q)) := by
  refine G.ok_of (F_Ratio_ge T) sc_Ratio_ge (fun vs H Q E h => ?_) (fun cdv A outer s H vs Q E hr h => ?_)
  · obtain ⟨a, q, m, v, r, l, rfl, _⟩ := h
    rfl
  · obtain ⟨a, q, m, v, r, l, rfl, ha, hv, l9, k⟩ := h
    have har := ha.r
    have hvn := hv.num l9
    have h1 := har.bt
    have h2 := har.bb
    have h3 := hvn.bt
    have h4 := hvn.bb
    dsimp only at k
    rw [← le_dec r q] at k
    refine ⟨_, (pss_cons (ps_asg (G.pe_callG (ok_parts_of T) (hr.mono (by first | decide | omega)) rfl (gl_parts_of T) (F_parts_of T).kp (bi_parts_of T) .nil pass0 (pa_cons (pv 1) pa_nil)) (pg_tup (n := 2) (by rfl) (pgs_cons (pg_name (i := 2) sc_Ratio_ge.nd rfl (Or.inl rfl)) (pgs_cons (pg_name (i := 3) sc_Ratio_ge.nd rfl (Or.inl rfl)) pgs_nil))))
    (pss_one (ps_ret (pe_cmpR G.op_geG (pe_op G.op_mulG (pe_fld (pv 0) rfl) (pv 3)) (pe_op G.op_mulG (pv 2) (pe_fld (pv 0) rfl)) (nomark _))))), ?_⟩
    walk_at "start"
    walk_at "go"
    exact k _ (by assumption)
end
end Lw

-- k02: keywords, lambdas
local macro_rules | `(tactic| walk_at "gx") => `(tactic| first
  | with_reducible refine Lw.st_smK ?_
  | with_reducible refine Lw.st_mkKW ?_
  | ((with_reducible refine Lw.st_mkKW' ?e ?_); (case e => rfl))
  | ((with_reducible refine Lw.mkKW_D (q := ?z0) ?hb ?e ?b1 ?b2 ?_); (case hb => first | assumption | omega); (case e => walk_at "dq"); (case b1 => first | assumption | walk_at "bdw"); (case b2 => first | assumption | walk_at "bdw"); intro _ _ _ _ _)
  | with_reducible refine Lw.st_TTh ?_
  | with_reducible refine Lw.st_EhD ?_
  | ((with_reducible refine Lw.st_EhR (v := ?z0) ?h ?_); (case h => walk_at "hp")))
local macro_rules | `(tactic| walk_at "g") => `(tactic| ((with_reducible refine Lw.append_lz (xs := ?z0) (zs := ?z1) ?h ?l ?e ?_); (case h => walk_at "hp"); (case l => (simp only [List.length_cons, List.length_nil]; omega)); (case e => (simp only [List.cons_append, List.nil_append]; rfl)); intro _ _ _))
-- as far as it goes, but no comparison of lists
local macro_rules | `(tactic| walk_at "gos") => `(tactic| repeat' ((fail_if_success (with_reducible show G.rOr (G.rNeG _) _ (.ref _) (.ref _) _ _)); (fail_if_success (with_reducible show G.rNeG _ (.ref _) (.ref _) _ _)); (fail_if_success (with_reducible show G.LcB (!_) _ _ _ _ _)); (fail_if_success (with_reducible show (if (!decide (_ = _)) = true then _ else _))); (fail_if_success (with_reducible show G.rEqG _ (.ref _) (.ref _) _ _)); (fail_if_success (with_reducible show G.rOr (G.rEqG _) (G.rOr _ _) (.ref _) (.ref _) _ _)); first | walk_at "g" | walk_at "gl"))

-- k10: pieces
local macro_rules | `(tactic| walk_at "hp") => `(tactic| first
  | (refine Lw.IsPQ.kp (by assumption) ?_; walk_at "hp")
  | (refine Lw.IsPQ.md (by assumption) ?_; walk_at "hp"))
local macro_rules | `(tactic| walk_at "gx") => `(tactic| first
  | ((with_reducible refine Lw.fld_left (a := ?z4) (b := ?z5) (q := ?z0) (r := ?z1) (m := ?z2) (l := ?z3) (by assumption) ?h ?_); (case h => walk_at "hp"))
  | ((with_reducible refine Lw.fld_right (a := ?z4) (b := ?z5) (q := ?z0) (r := ?z1) (m := ?z2) (l := ?z3) (by assumption) ?h ?_); (case h => walk_at "hp"))
  | with_reducible refine G.st_propP ?_
  | ((with_reducible refine Lw.prop_mid (a := ?z4) (b := ?z5) (q := ?z0) (r := ?z1) (m := ?z2) (l := ?z3) (by assumption) ?h ?_); (case h => walk_at "hp"))
  | ((with_reducible refine Lw.middle_P (a := ?z4) (b := ?z5) (q := ?z0) (r := ?z1) (m := ?z2) (l := ?z3) ?h ?_); (case h => walk_at "hp"); intro _ _ _ _ _)
  | ((with_reducible refine Lw.mk_PQ (q := ?z0) (r := ?z1) (m := ?z2) (l := ?z3) ?h ?k ?n ?_); (case h => walk_at "nb"); (case k => walk_at "nb"); (case n => assumption); intro _ _ _ _ _ _ _))

-- the plain forms first
local macro_rules | `(tactic| walk_at "g") => `(tactic| first
  | ((with_reducible refine G.st_var (v := ?z0) ?h ?_); (case h => rfl))
  | with_reducible refine G.st_c ?_
  | with_reducible refine G.st_op ?_
  | with_reducible refine G.st_seq ?_
  | with_reducible refine G.st_asg ?_
  | with_reducible refine G.st_test ?_
  | with_reducible refine G.st_B ?_
  | with_reducible refine G.st_cons ?_
  | with_reducible refine G.st_nil ?_
  | with_reducible refine G.st_call ?_
  | with_reducible refine G.st_exbl ?_
  | with_reducible refine G.st_exblP ?_
  | with_reducible refine G.st_iteT ?_
  | with_reducible refine G.st_iteF ?_
  | with_reducible refine G.st_ifS ?_
  | with_reducible refine G.st_ret ?_
  | with_reducible refine G.st_methP ?_
  | with_reducible refine G.st_fld ?_
  | with_reducible refine G.st_exint ?_
  | with_reducible refine G.st_exintP ?_
  | with_reducible refine G.st_tup ?_
  | with_reducible refine G.st_lst ?_
  | with_reducible refine G.st_mk ?_
  | with_reducible refine G.st_and ?_
  | with_reducible refine G.st_or ?_
  | with_reducible refine G.st_not ?_)
-- what is at hand first
local macro_rules | `(tactic| walk_at "hp") => `(tactic| assumption)
-- what a test says; nothing is unfolded
local macro_rules | `(tactic| walk_at "gif") => `(tactic| ((with_reducible refine G.st_ite ?_ ?_) <;> (intro hc; (try simp only [decide_eq_true_eq, decide_eq_false_iff_not, Bool.not_eq_true', Bool.not_eq_false', Bool.and_eq_true, Bool.or_eq_true, Bool.and_eq_false_iff, Bool.or_eq_false_iff, Bool.not_true, Bool.not_false, bne_iff_ne, beq_iff_eq, ne_eq, not_true_eq_false, not_false_eq_true, Bool.false_eq_true, Bool.true_eq_false, reduceCtorEq] at hc); (try (exfalso; with_reducible first | assumption | contradiction | omega)))))

namespace Lw
open PySem PySem.Spec PyProof.Rows L2
section
variable {P : Program} {w : World} {K : PySem.W.Frag} {mg : Str → Option Value} {base : Heap}
theorem ok_Piece_init (T : Tx K mg) : G.FnG P w K mg base CX0 5 (a_Piece_init K) (G.fdOf K (a_Piece_init K)) ["self", "left", "right"] (sp_Piece_init K) := by
  refine G.ok_of (F_Piece_init T) sc_Piece_init (fun vs H Q E h => ?_) (fun cdv A outer s H vs Q E hr h => ?_)
  · obtain ⟨x, dx, v, u, q, r, m, l, rfl, _⟩ := h
    rfl
  · obtain ⟨x, dx, v, u, q, r, m, l, rfl, hx, hv, hu, n, z⟩ := h
    obtain ⟨nb, h0, h1, h2, h3, m1, l1, m9, l9⟩ := n
    have n1 : ¬ q < 0 := by grind
    have n2 : ¬ 1 ≤ q := by grind
    have n3 : ¬ r ≤ 0 := by grind
    have n4 : ¬ 1 < r := by grind
    refine ⟨_, (pss_cons (ps_if (PW.pt (pw_or (pt_not (pt_val (G.pe_smeth (G.pe_cl rfl (gl_Ratio T)) (rd_Ratio T) (sm_Ratio_is_number T) (ok_Ratio_is_number T) (hr.mono (by first | decide | omega)) (bi_Ratio_is_number T) .nil pass0 (pa_cons (pv 1) pa_nil)))) (pw_or (pt_cmpR (G.opOr G.op_ltG (G.opOr (G.op_cmpO (fun _ _ => rfl) (ow_Ratio_lt T) (ok_Ratio_lt T) (hr.mono (by first | decide | omega)) (bi_Ratio_lt T) pass0) (G.op_cmpRf (fun _ _ => rfl) (ow_Ratio_gt T) G.declC_lt (si_Ratio T) (ok_Ratio_gt T) (hr.mono (by first | decide | omega)) (bi_Ratio_gt T) pass0))) (pv 1) pe_int (nomark _)) (pw_or1 (pt_cmpR (G.opOr G.op_geG (G.opOr (G.op_cmpO (fun _ _ => rfl) (ow_Ratio_ge T) (ok_Ratio_ge T) (hr.mono (by first | decide | omega)) (bi_Ratio_ge T) pass0) (G.op_cmpRf (fun _ _ => rfl) (ow_Ratio_le T) G.declC_ge (si_Ratio T) (ok_Ratio_le T) (hr.mono (by first | decide | omega)) (bi_Ratio_le T) pass0))) (pv 1) pe_int (nomark _)))))) (pss_one ps_never) pss_nil)
    (pss_cons (ps_if (PW.pt (pw_or (pt_not (pt_val (G.pe_smeth (G.pe_cl rfl (gl_Ratio T)) (rd_Ratio T) (sm_Ratio_is_number T) (ok_Ratio_is_number T) (hr.mono (by first | decide | omega)) (bi_Ratio_is_number T) .nil pass0 (pa_cons (pv 2) pa_nil)))) (pw_or (pt_cmpR (G.opOr G.op_leG (G.opOr (G.op_cmpO (fun _ _ => rfl) (ow_Ratio_le T) (ok_Ratio_le T) (hr.mono (by first | decide | omega)) (bi_Ratio_le T) pass0) (G.op_cmpRf (fun _ _ => rfl) (ow_Ratio_ge T) G.declC_le (si_Ratio T) (ok_Ratio_ge T) (hr.mono (by first | decide | omega)) (bi_Ratio_ge T) pass0))) (pv 2) pe_int (nomark _)) (pw_or1 (pt_cmpR (G.opOr G.op_gtG (G.opOr (G.op_cmpO (fun _ _ => rfl) (ow_Ratio_gt T) (ok_Ratio_gt T) (hr.mono (by first | decide | omega)) (bi_Ratio_gt T) pass0) (G.op_cmpRf (fun _ _ => rfl) (ow_Ratio_lt T) G.declC_gt (si_Ratio T) (ok_Ratio_lt T) (hr.mono (by first | decide | omega)) (bi_Ratio_lt T) pass0))) (pv 2) pe_int (nomark _)))))) (pss_one ps_never) pss_nil)
    (pss_cons (ps_fld (pv 0) (G.pe_smeth (G.pe_cl rfl (gl_Ratio T)) (rd_Ratio T) (sm_Ratio_of T) (ok_Ratio_of T) (hr.mono (by first | decide | omega)) (bi_Ratio_of T) .nil pass0 (pa_cons (pv 1) pa_nil)) rfl)
    (pss_cons (ps_fld (pv 0) (G.pe_smeth (G.pe_cl rfl (gl_Ratio T)) (rd_Ratio T) (sm_Ratio_of T) (ok_Ratio_of T) (hr.mono (by first | decide | omega)) (bi_Ratio_of T) .nil pass0 (pa_cons (pv 2) pa_nil)) rfl)
    (pss_one (ps_if (pt_cmpR (G.op_neG hr.units) (pe_op G.op_subG (pe_op G.op_mulG (pe_fld (pe_fld (pv 0) rfl) rfl) (pe_fld (pe_fld (pv 0) rfl) rfl)) (pe_op G.op_mulG (pe_fld (pe_fld (pv 0) rfl) rfl) (pe_fld (pe_fld (pv 0) rfl) rfl))) pe_int (nomark _)) (pss_one ps_never) pss_nil)))))), ?_⟩
    walk_at "start"
    walk_at "gos"
    refine dF n1 ?_
    walk_at "gos"
    refine dF n2 ?_
    walk_at "gos"
    refine dF n3 ?_
    walk_at "gos"
    refine dF n4 ?_
    walk_at "gos"
    rename_i H1 k1 H2 k2 H3 k3 H4 k4 a H5 n5 k5 il5
    have kk : G.Kp H H5 := by walk_at "kp"
    have hx5 := kk _ _ hx
    have hu5 := hu.kp kk
    refine G.st_setfldM hx5 (cl_Piece T) (na_Piece_left T) (by decide) fun H6 m6 e6 => ?_
    have hu6 := hu5.mi m6 (hu5.ne_fs hx5 (by decide))
    have il6 := il5.mi m6 (il5.ne_fs hx5 (by decide))
    clear hx5 hu5 il5
    walk_at "gos"
    rename_i b H7 n7 k7 ir7
    have il7 := il6.kp k7
    have e7 := k7 _ _ e6
    refine G.st_setfldM e7 (cl_Piece T) (na_Piece_right T) (by show 1 < 1000; decide) fun H8 m8 e8 => ?_
    have il8 := il7.mi m8 (il7.ne_fs e7 (by show 1 < 2; decide))
    have ir8 := ir7.mi m8 (ir7.ne_fs e7 (by show 1 < 2; decide))
    have e9 : H8 x = some (.ins (He.ga K "Piece") dx [("left", .ref a), ("right", .ref b)]) := e8.trans (congrArg (fun z => some (HO.ins (He.ga K "Piece") dx z)) pf_P)
    have ip : IsPQ K H8 x a b q r m l := ⟨⟨dx, e9⟩, il8, ir8, nb, h0, h1, h2, h3, m9, l9⟩
    have mi : G.Mi x H H8 := ((G.Mi.of_kp kk).trans m6).trans ((G.Mi.of_kp k7).trans m8)
    have b1 := il8.bn
    have b2 := il8.bd
    have b3 := ir8.bn
    have b4 := ir8.bd
    clear il7 e7 il6 hu6 e6 e8 ir7 k1 k2 k3 k4 k5 n5 k7 n7 m6 m8 kk
    have nd : ¬ (¬ ((q.den : Int) * r.num - q.num * r.den = 1)) := fun z => z nb
    walk_at "gob"
    exact z a b H8 mi ip
end
end Lw

namespace Lw
open PySem PySem.Spec PyProof.Rows L2 PySem.NumText TL
/-! ### texts of numbers -/
/-- a canonical word of at most m figures -/
def CanM (m : Nat) (w : List Nat) : Prop := w ≠ [] ∧ w.length ≤ m ∧ AllDigits w ∧ (w = [48] ∨ w.head? ≠ some 48)
instance (m : Nat) (w : List Nat) : Decidable (CanM m w) := by unfold CanM AllDigits; infer_instance
theorem nat_char : ∀ c : Nat, c < 58 → (Char.ofNat c).toNat = c := by decide
theorem can_num {m : Nat} {w : List Nat} (h : CanM m w) : numL (digitsVal w) = w := by
  obtain ⟨h1, _, h3, h4⟩ := h
  obtain ⟨c, r, rfl⟩ := List.exists_cons_of_ne_nil h1
  have hc := h3.head
  have e := toDigits_digitsVal r.length (c :: r) rfl h3 (by
    rcases h4 with h4 | h4
    · injection h4 with _ e
      left
      rw [e]
      rfl
    · right
      refine ⟨c, r, rfl, ?_⟩
      have : c ≠ 48 := fun z => h4 (by rw [z]; rfl)
      omega)
  unfold numL
  rw [e, List.map_map]
  refine (List.map_congr_left fun a ha => ?_).trans (List.map_id _)
  exact nat_char a (by have := (h3 a ha).2; omega)
theorem numL_dg (n : Nat) : AllDigits (numL n) := by
  intro c hc
  induction n using Nat.strongRecOn with
  | _ n ih =>
    by_cases h : n < 10
    · rw [numL_lt h] at hc
      simp only [List.mem_cons, List.not_mem_nil, or_false] at hc
      omega
    · rw [numL_step (by omega)] at hc
      rcases List.mem_append.mp hc with hc | hc
      · exact ih _ (by omega) hc
      · simp only [List.mem_cons, List.not_mem_nil, or_false] at hc
        omega
theorem numL_ne (n : Nat) : numL n ≠ [] := by
  by_cases h : n < 10
  · rw [numL_lt h]; simp
  · rw [numL_step (by omega)]; simp
theorem numL_head (n : Nat) : 0 < n → ∃ c r, numL n = c :: r ∧ 49 ≤ c := by
  induction n using Nat.strongRecOn with
  | _ n ih =>
    intro h0
    by_cases h : n < 10
    · exact ⟨_, _, numL_lt h, by omega⟩
    · obtain ⟨c, r, e, hc⟩ := ih (n / 10) (by omega) (by omega)
      exact ⟨c, r ++ [48 + n % 10], by rw [numL_step (by omega), e]; rfl, hc⟩
theorem num_can {m n : Nat} (h : (numL n).length ≤ m) : CanM m (numL n) := by
  refine ⟨numL_ne n, h, numL_dg n, ?_⟩
  rcases Nat.eq_zero_or_pos n with rfl | h0
  · exact .inl (by decide +kernel)
  · obtain ⟨c, r, e, hc⟩ := numL_head n h0
    right
    rw [e]
    simp only [List.head?_cons, ne_eq, Option.some.injEq]
    omega
theorem val_num (n : Nat) : digitsVal (numL n) = n := PySem.W.KIN.val_back n
/-- the number that a word writes -/
def figV (m : Nat) (z : Str) : Option Nat := if CanM m (tl z) then some (digitsVal (tl z)) else none
theorem figV_some {m : Nat} {z : Str} {n : Nat} (h : figV m z = some n) : tl z = numL n ∧ (numL n).length ≤ m := by
  unfold figV at h
  split at h
  · rename_i hc
    cases h
    have e := can_num hc
    exact ⟨e.symm, by rw [e]; exact hc.2.1⟩
  · cases h
theorem figV_num {m : Nat} {z : Str} {n : Nat} (h : tl z = numL n) (l : (numL n).length ≤ m) : figV m z = some n := by
  unfold figV
  rw [if_pos (by rw [h]; exact num_can l), h, val_num]
/-! ### slices, signs -/
theorem tl_len (z : Str) : z.length = (tl z).length := by
  show z.cps.size = z.cps.toList.length
  simp
theorem sIx_none (n d : Nat) : HT.sIx n d none = d := rfl
theorem tl_cut (z : Str) (lo hi : Option Int) : tl (cutS z lo hi) = ((tl z).drop (HT.sIx z.length 0 lo)).take (HT.sIx z.length z.length hi - HT.sIx z.length 0 lo) := by
  show (List.toArray _).toList = _
  rw [List.toList_toArray]
theorem str_tl {a b : Str} : a = b ↔ tl a = tl b := by
  constructor
  · intro h; rw [h]
  · intro h
    have e := Array.toList_inj.mp (show a.cps.toList = b.cps.toList from h)
    cases a
    cases b
    exact congrArg _ e
end Lw

namespace Lw
open PySem PySem.Spec PyProof.Rows L2 PySem.NumText TL
/-! ### texts of fractions -/
/-- an integer's signs -/
def intL (i : Int) : List Nat := if i < 0 then 45 :: numL i.natAbs else numL i.natAbs
theorem tl_ofs (s : String) : tl (Str.ofString s) = s.toList.map Char.toNat := by
  rw [Str.ofString_eq_toList]
theorem tl_tx (i : Int) : tl (G.tx i) = intL i := by
  cases i with
  | ofNat m =>
    rw [intL, if_neg (by simp)]
    exact tl_num m
  | negSucc m =>
    rw [intL, if_pos (Int.negSucc_lt_zero m)]
    show tl (Str.ofString ("-" ++ (m + 1).repr)) = _
    rw [tl_ofs, String.toList_append, List.map_append, Nat.toList_repr]
    rfl
theorem sl_tl : tl (Str.ofString "/") = [47] := by decide +kernel
theorem da_tl : tl (Str.ofString "-") = [45] := by decide +kernel
/-- a word without its first sign -/
def drop1 (z : Str) : Str := cutS z (some 1) none
theorem sIx1 (n d : Nat) : HT.sIx n d (some 1) = min 1 n := HT.sIx_nat n d 1
theorem sIx2 (n d : Nat) : HT.sIx n d (some 2) = min 2 n := HT.sIx_nat n d 2
theorem tl_take1 (z : Str) : tl (cutS z none (some 1)) = (tl z).take 1 := by
  rw [tl_cut, sIx_none, sIx1, tl_len, List.drop_zero, Nat.sub_zero]
  rcases Nat.lt_or_ge (tl z).length 1 with h | h
  · rw [Nat.min_eq_right (by omega), List.take_of_length_le (Nat.le_refl _), List.take_of_length_le (by omega)]
  · rw [Nat.min_eq_left h]
theorem tl_take2 (z : Str) : tl (cutS z none (some 2)) = (tl z).take 2 := by
  rw [tl_cut, sIx_none, sIx2, tl_len, List.drop_zero, Nat.sub_zero]
  rcases Nat.lt_or_ge (tl z).length 2 with h | h
  · rw [Nat.min_eq_right (by omega), List.take_of_length_le (Nat.le_refl _), List.take_of_length_le (by omega)]
  · rw [Nat.min_eq_left h]
theorem tl_drop1 (z : Str) : tl (drop1 z) = (tl z).drop 1 := by
  rw [drop1, tl_cut, sIx_none, sIx1, tl_len]
  rcases Nat.lt_or_ge (tl z).length 1 with h | h
  · rw [Nat.min_eq_right (by omega), List.take_of_length_le (by simp), List.drop_of_length_le (Nat.le_refl _), List.drop_of_length_le (by omega)]
  · rw [Nat.min_eq_left h, List.take_of_length_le (by rw [List.length_drop]; omega)]
/-- does it begin with a minus? -/
def isNeg (z : Str) : Bool := decide ((tl z).take 1 = [45])
theorem neg_cut (z : Str) : decide (cutS z none (some 1) = Str.ofString "-") = isNeg z := by
  unfold isNeg
  rw [decide_eq_decide, str_tl, tl_take1, da_tl]
theorem isNeg_iff (z : Str) : isNeg z = true ↔ ∃ r, tl z = 45 :: r := by
  unfold isNeg
  rw [decide_eq_true_eq]
  cases e : tl z with
  | nil => simp
  | cons c r => simp
/-- the integer that a word writes -/
def intV (m : Nat) (z : Str) : Option Int := if isNeg z = true then (match figV m (drop1 z) with | some n => if n = 0 then none else some (-(n : Int)) | none => none) else (match figV m z with | some n => some ((n : Nat) : Int) | none => none)
theorem intV_some {m : Nat} {z : Str} {i : Int} (h : intV m z = some i) : tl z = intL i ∧ (numL i.natAbs).length ≤ m := by
  unfold intV at h
  split at h
  · rename_i hn
    obtain ⟨r, er⟩ := (isNeg_iff z).mp hn
    split at h
    · rename_i n hf
      split at h
      · cases h
      · rename_i n0
        injection h with h
        subst h
        obtain ⟨e1, e2⟩ := figV_some hf
        rw [tl_drop1, er] at e1
        rw [intL, if_pos (by omega), er, Int.natAbs_neg, Int.natAbs_natCast]
        exact ⟨by rw [← e1]; rfl, e2⟩
    · cases h
  · split at h
    · rename_i n hf
      injection h with h
      subst h
      obtain ⟨e1, e2⟩ := figV_some hf
      rw [intL, if_neg (by omega), Int.natAbs_natCast]
      exact ⟨e1, e2⟩
    · cases h
theorem intV_num {m : Nat} {z : Str} {i : Int} (h : tl z = intL i) (l : (numL i.natAbs).length ≤ m) : intV m z = some i := by
  unfold intV
  by_cases hi : i < 0
  · rw [intL, if_pos hi] at h
    rw [if_pos ((isNeg_iff z).mpr ⟨_, h⟩), figV_num (by rw [tl_drop1, h]; rfl) l]
    show (if i.natAbs = 0 then _ else _) = _
    rw [if_neg (by omega)]
    congr 1
    omega
  · rw [intL, if_neg hi] at h
    have : ¬ isNeg z = true := fun hn => by
      obtain ⟨r, er⟩ := (isNeg_iff z).mp hn
      have := numL_dg i.natAbs 45 (by rw [← h, er]; exact List.mem_cons_self ..)
      omega
    rw [if_neg this, figV_num h l]
    show some ((i.natAbs : Nat) : Int) = some i
    congr 1
    omega
/-- what is read of a text -/
def rdV (z : Str) : Option (Int × Int) := match Txt.split z (Str.ofString "/") with
  | [a, b] => (match intV 60 a, figV 60 b with | some t, some n => if 0 < n ∧ Int.gcd t n = 1 then some (t, (n : Int)) else none | _, _ => none)
  | _ => none
theorem split_two {z a b : Str} (h : Txt.split z (Str.ofString "/") = [a, b]) : tl z = tl a ++ 47 :: tl b := by
  have e := StrLaws.join_split z (Str.ofString "/")
  rw [h] at e
  rw [← e]
  show tl (a ++ Str.ofString "/" ++ b) = _
  show (a.cps ++ (Str.ofString "/").cps ++ b.cps).toList = _
  rw [Array.toList_append, Array.toList_append, List.append_assoc]
  rw [show (Str.ofString "/").cps.toList = [47] from sl_tl]
  rfl
theorem no47 (i : Int) : 47 ∉ intL i := by
  intro h
  unfold intL at h
  split at h
  · rcases List.mem_cons.mp h with h | h
    · cases h
    · have := numL_dg _ _ h
      omega
  · have := numL_dg _ _ h
    omega
theorem numL_int (n : Nat) : numL n = intL n := by
  rw [intL, if_neg (by omega), Int.natAbs_natCast]
theorem split_num {z : Str} {t b : Int} (h : tl z = intL t ++ 47 :: intL b) : Txt.split z (Str.ofString "/") = [G.tx t, G.tx b] := by
  have e : z = Txt.join (Str.ofString "/") [G.tx t, G.tx b] := by
    rw [str_tl, h, join_eq, tl_join, sl_tl]
    show _ = tl (G.tx t) ++ ([47] ++ tl (G.tx b))
    rw [tl_tx, tl_tx]
    rfl
  rw [e]
  refine split_join (s := 47) (S := []) sl_tl (by decide +kernel) (by simp) fun p hp => ?_
  simp only [List.mem_cons, List.not_mem_nil, or_false] at hp
  rcases hp with rfl | rfl
  · show 47 ∉ tl (G.tx t)
    rw [tl_tx]
    exact no47 t
  · show 47 ∉ tl (G.tx b)
    rw [tl_tx]
    exact no47 b
theorem rdV_some {z : Str} {t b : Int} (h : rdV z = some (t, b)) : tl z = intL t ++ 47 :: intL b ∧ 0 < b ∧ Int.gcd t b = 1 ∧ (numL t.natAbs).length ≤ 60 ∧ (numL b.natAbs).length ≤ 60 := by
  unfold rdV at h
  split at h
  · rename_i a c hs
    split at h
    · rename_i t' n h1 h2
      split at h
      · rename_i hc
        injection h with h
        injection h with e1 e2
        subst e1 e2
        obtain ⟨e1, l1⟩ := intV_some h1
        obtain ⟨e2, l2⟩ := figV_some h2
        refine ⟨by rw [split_two hs, e1, e2, numL_int], by omega, hc.2, l1, l2⟩
      · cases h
    · cases h
  · cases h
theorem rdV_num {z : Str} {t b : Int} (h : tl z = intL t ++ 47 :: intL b) (b0 : 0 < b) (g : Int.gcd t b = 1) (l1 : (numL t.natAbs).length ≤ 60) (l2 : (numL b.natAbs).length ≤ 60) : rdV z = some (t, b) := by
  obtain ⟨n, rfl⟩ := Int.eq_ofNat_of_zero_le (Int.le_of_lt b0)
  unfold rdV
  rw [split_num h]
  show (match intV 60 (G.tx t), figV 60 (G.tx ((n : Nat) : Int)) with | some t, some n => if 0 < n ∧ Int.gcd t n = 1 then some (t, (n : Int)) else none | _, _ => none) = _
  rw [intV_num (tl_tx t) l1, figV_num (n := n) (by rw [tl_tx, numL_int]) (by simpa using l2)]
  show (if 0 < n ∧ Int.gcd t n = 1 then some (t, (n : Int)) else none) = _
  rw [if_pos ⟨by omega, g⟩]
/-- the law's own look -/
def lwV (z : Str) : Bool := match Txt.split z (Str.ofString "/") with
  | [a, b] => if (tl z).take 2 = [45, 48] then false else (match figV 60 (if isNeg a = true then drop1 a else a), figV 60 b with | some n, some m => decide (m ≠ 0 ∧ Int.gcd n m = 1) | _, _ => false)
  | _ => false
theorem lwV_rdV (z : Str) : lwV z = (rdV z).isSome := by
  unfold lwV rdV
  split
  · rename_i a b hs
    have ez := split_two hs
    unfold intV
    by_cases hn : isNeg a = true
    · rw [if_pos hn, if_pos hn]
      obtain ⟨r, er⟩ := (isNeg_iff a).mp hn
      have ed : tl (drop1 a) = r := by rw [tl_drop1, er]; rfl
      rw [er] at ez
      by_cases h2 : (tl z).take 2 = [45, 48]
      · rw [if_pos h2]
        rw [ez] at h2
        cases r with
        | nil => simp at h2
        | cons c r =>
          have hc : c = 48 := by simpa using h2
          subst hc
          cases hf : figV 60 (drop1 a) with
          | none => rfl
          | some n =>
            obtain ⟨e1, _⟩ := figV_some hf
            rw [ed] at e1
            have hz : n = 0 := by
              rcases Nat.eq_zero_or_pos n with h | h
              · exact h
              · obtain ⟨c, q, e, hc⟩ := numL_head n h
                rw [e] at e1
                injection e1 with e2 _
                omega
            subst hz
            cases figV 60 b <;> rfl
      · rw [if_neg h2]
        cases hf : figV 60 (drop1 a) with
        | none => cases figV 60 b <;> rfl
        | some n =>
          obtain ⟨e1, _⟩ := figV_some hf
          rw [ed] at e1
          have hz : n ≠ 0 := by
            rintro rfl
            rw [show numL 0 = [48] by decide +kernel] at e1
            rw [ez, e1] at h2
            exact h2 rfl
          cases hg : figV 60 b with
          | none => simp only [if_neg hz]; rfl
          | some m =>
            simp only [if_neg hz]
            rw [Int.neg_gcd]
            by_cases h : m ≠ 0 ∧ Int.gcd n m = 1
            · rw [decide_eq_true h, if_pos ⟨by omega, h.2⟩]; rfl
            · rw [decide_eq_false h, if_neg (fun k => h ⟨by omega, k.2⟩)]; rfl
    · rw [if_neg hn, if_neg hn]
      have h2 : ¬ (tl z).take 2 = [45, 48] := fun h => hn ((isNeg_iff a).mpr (by
        rw [ez] at h
        cases ea : tl a with
        | nil => rw [ea] at h; simp at h
        | cons c r =>
          rw [ea] at h
          have : c = 45 := by
            have h1 := congrArg List.head? h
            simpa using h1
          exact ⟨r, by rw [this]⟩))
      rw [if_neg h2]
      cases hf : figV 60 a with
      | none => cases figV 60 b <;> rfl
      | some n =>
        cases hg : figV 60 b with
        | none => rfl
        | some m =>
          show decide (m ≠ 0 ∧ Int.gcd n m = 1) = Option.isSome (if 0 < m ∧ Int.gcd n m = 1 then some ((n : Int), (m : Int)) else none)
          by_cases h : m ≠ 0 ∧ Int.gcd n m = 1
          · rw [decide_eq_true h, if_pos ⟨by omega, h.2⟩]; rfl
          · rw [decide_eq_false h, if_neg (fun k => h ⟨by omega, k.2⟩)]; rfl
  · rfl
end Lw

namespace Lw
open PySem PySem.Spec PyProof.Rows L2 PySem.NumText TL
/-! ### k92: texts of tuples of numbers -/
theorem tl_app (x y : Str) : tl (x ++ y) = tl x ++ tl y := by
  show (x.cps ++ y.cps).toList = _
  rw [Array.toList_append]
def commaL : List (List Nat) → List Nat
  | [] => []
  | x :: r => 44 :: 32 :: (x ++ commaL r)
/-- the signs of a tuple's text behind the first bracket -/
def tailL : List (List Nat) → List Nat
  | [] => [41]
  | [x] => x ++ [44, 41]
  | x :: y :: r => x ++ (commaL (y :: r) ++ [41])
theorem tl_join : ∀ (x : Str) (r : List Str), tl (Str.join (Str.ofString ", ") (x :: r)) = tl x ++ commaL (r.map tl)
  | x, [] => by simp [Str.join, commaL]
  | x, y :: r => by
    show tl (x ++ Str.ofString ", " ++ Str.join (Str.ofString ", ") (y :: r)) = _
    rw [tl_app, tl_app, tl_join y r, show tl (Str.ofString ", ") = [44, 32] by decide +kernel]
    simp [commaL]
theorem tl_tup (xs : List PyData) : tl (PyData.shown (.tuple xs)) = 40 :: tailL ((PyData.shownAll xs).map tl) := by
  have e1 : tl (Str.ofString "(") = [40] := by decide +kernel
  have e2 : tl (Str.ofString ",)") = [44, 41] := by decide +kernel
  have e3 : tl (Str.ofString ")") = [41] := by decide +kernel
  show tl (tupleText (PyData.shownAll xs)) = _
  generalize PyData.shownAll xs = ts
  unfold tupleText
  rw [tl_app, tl_app]
  match ts with
  | [] => simp [Str.join, tailL, e1, e3]; rfl
  | [x] => simp [Str.join, tailL, e1, e2]
  | x :: y :: r =>
    rw [tl_join]
    simp [tailL, e1, e3, List.map_cons]
theorem shownAll_ints : ∀ ns : List Int, (PyData.shownAll (ns.map PyData.int)).map tl = ns.map intL
  | [] => rfl
  | n :: r => by
    rw [List.map_cons, List.map_cons, PyData.shownAll, List.map_cons, shownAll_ints r]
    congr 1
    exact tl_tx n
/-- an integer's signs lie above the comma -/
theorem intL_hi (i : Int) : ∀ c ∈ intL i, 45 ≤ c ∧ c ≤ 57 := by
  intro c hc
  unfold intL at hc
  have dg : ∀ c ∈ numL i.natAbs, 48 ≤ c ∧ c ≤ 57 := numL_dg i.natAbs
  split at hc
  · rcases List.mem_cons.mp hc with rfl | h
    · omega
    · have := dg c h; omega
  · have := dg c hc; omega
theorem intL_inj {i j : Int} (h : intL i = intL j) : i = j := by
  have hd : ∀ n : Nat, ∀ r, numL n ≠ 45 :: r := fun n r e => by
    have := numL_dg n 45 (by rw [e]; exact List.mem_cons_self ..)
    omega
  have nm : ∀ m n : Nat, numL m = numL n → m = n := fun m n e => by rw [← val_num m, e, val_num]
  unfold intL at h
  split at h <;> split at h
  · have := nm _ _ (List.cons.inj h).2
    omega
  · exact absurd h.symm (hd _ _)
  · exact absurd h (hd _ _)
  · have := nm _ _ h
    omega
theorem span_inj : ∀ {u v s t : List Nat} {c e : Nat}, (∀ x ∈ u, 45 ≤ x) → (∀ x ∈ v, 45 ≤ x) → c < 45 → e < 45 → u ++ c :: s = v ++ e :: t → u = v ∧ c :: s = e :: t
  | [], [], _, _, _, _, _, _, _, _, h => ⟨rfl, h⟩
  | [], y :: v, _, _, _, _, _, hv, hc, _, h => by
    have := hv y (List.mem_cons_self ..)
    have := (List.cons.inj h).1
    omega
  | x :: u, [], _, _, _, _, hu, _, _, he, h => by
    have := hu x (List.mem_cons_self ..)
    have := (List.cons.inj h).1
    omega
  | x :: u, y :: v, _, _, _, _, hu, hv, hc, he, h => by
    obtain ⟨rfl, h2⟩ := List.cons.inj h
    obtain ⟨e1, e2⟩ := span_inj (fun z hz => hu z (List.mem_cons_of_mem _ hz)) (fun z hz => hv z (List.mem_cons_of_mem _ hz)) hc he h2
    exact ⟨by rw [e1], e2⟩
theorem comma_inj : ∀ {xs ys : List Int}, commaL (xs.map intL) ++ [41] = commaL (ys.map intL) ++ [41] → xs = ys
  | [], [], _ => rfl
  | [], y :: r, h => by simp [commaL] at h
  | x :: r, [], h => by simp [commaL] at h
  | x :: r, y :: t, h => by
    have h2 : intL x ++ (commaL (r.map intL) ++ [41]) = intL y ++ (commaL (t.map intL) ++ [41]) := by simpa [commaL] using h
    have hd : ∀ l : List Int, ∃ c s, commaL (l.map intL) ++ [41] = c :: s ∧ c < 45 := fun l => match l with
      | [] => ⟨41, [], rfl, by omega⟩
      | z :: l => ⟨44, 32 :: (intL z ++ commaL (l.map intL)) ++ [41], rfl, by omega⟩
    obtain ⟨c, s, e1, hc⟩ := hd r
    obtain ⟨e, u, e2, he⟩ := hd t
    rw [e1, e2] at h2
    obtain ⟨g1, g2⟩ := span_inj (fun z hz => (intL_hi x z hz).1) (fun z hz => (intL_hi y z hz).1) hc he h2
    rw [intL_inj g1, comma_inj (e1.trans (g2.trans e2.symm))]
theorem tail_inj : ∀ {xs ys : List Int}, tailL (xs.map intL) = tailL (ys.map intL) → xs = ys
  | [], [], _ => rfl
  | [], [y], h => by
    have : 2 ≤ (tailL (([y] : List Int).map intL)).length := by simp [tailL]
    rw [← h] at this
    simp [tailL] at this
  | [], y :: z :: t, h => by
    have : 2 ≤ (tailL ((y :: z :: t).map intL)).length := by simp [tailL, commaL]; omega
    rw [← h] at this
    simp [tailL] at this
  | [x], [], h => by
    have : 2 ≤ (tailL (([x] : List Int).map intL)).length := by simp [tailL]
    rw [h] at this
    simp [tailL] at this
  | x :: z :: t, [], h => by
    have : 2 ≤ (tailL ((x :: z :: t).map intL)).length := by simp [tailL, commaL]; omega
    rw [h] at this
    simp [tailL] at this
  | [x], [y], h => by
    obtain ⟨g1, _⟩ := span_inj (fun z hz => (intL_hi x z hz).1) (fun z hz => (intL_hi y z hz).1) (by omega) (by omega) h
    rw [intL_inj g1]
  | [x], y :: z :: t, h => by
    have h2 : intL x ++ 44 :: [41] = intL y ++ 44 :: (32 :: (intL z ++ commaL (t.map intL)) ++ [41]) := by simpa [tailL, commaL] using h
    have g := (span_inj (fun z hz => (intL_hi x z hz).1) (fun z hz => (intL_hi y z hz).1) (by omega) (by omega) h2).2
    simp at g
  | x :: z :: t, [y], h => by
    have h2 : intL y ++ 44 :: [41] = intL x ++ 44 :: (32 :: (intL z ++ commaL (t.map intL)) ++ [41]) := by simpa [tailL, commaL] using h.symm
    have g := (span_inj (fun z hz => (intL_hi y z hz).1) (fun z hz => (intL_hi x z hz).1) (by omega) (by omega) h2).2
    simp at g
  | x :: z :: t, y :: w :: u, h => by
    have h2 : intL x ++ (commaL ((z :: t).map intL) ++ [41]) = intL y ++ (commaL ((w :: u).map intL) ++ [41]) := h
    have h3 : intL x ++ 44 :: (32 :: (intL z ++ commaL (t.map intL)) ++ [41]) = intL y ++ 44 :: (32 :: (intL w ++ commaL (u.map intL)) ++ [41]) := h2
    obtain ⟨g1, g2⟩ := span_inj (fun z hz => (intL_hi x z hz).1) (fun z hz => (intL_hi y z hz).1) (by omega) (by omega) h3
    rw [intL_inj g1, comma_inj (xs := z :: t) (ys := w :: u) g2]
/-- the texts tell the numbers -/
theorem tup_inj {xs ys : List Int} (h : PyData.shown (.tuple (xs.map PyData.int)) = PyData.shown (.tuple (ys.map PyData.int))) : xs = ys := by
  have := congrArg tl h
  rw [tl_tup, tl_tup, shownAll_ints, shownAll_ints] at this
  exact tail_inj (List.cons.inj this).2
/-- the signs that a tuple of numbers has behind its first bracket -/
theorem comma_in : ∀ (ns : List Int), ∀ c ∈ commaL (ns.map intL), c = 32 ∨ c = 44 ∨ (45 ≤ c ∧ c ≤ 57)
  | [], c, h => by simp [commaL] at h
  | n :: r, c, h => by
    have h2 : c = 44 ∨ c = 32 ∨ c ∈ intL n ∨ c ∈ commaL (r.map intL) := by simpa [commaL] using h
    rcases h2 with h | h | h | h
    · exact .inr (.inl h)
    · exact .inl h
    · exact .inr (.inr (intL_hi n c h))
    · exact comma_in r c h
theorem tail_in (ns : List Int) : ∀ c ∈ tailL (ns.map intL), c = 32 ∨ c = 41 ∨ (44 ≤ c ∧ c ≤ 57) := by
  intro c h
  match ns with
  | [] => simp [tailL] at h; exact .inr (.inl h)
  | [x] =>
    have h2 : c ∈ intL x ∨ c = 44 ∨ c = 41 := by simpa [tailL] using h
    rcases h2 with h | h | h
    · have := intL_hi x c h; exact .inr (.inr (by omega))
    · exact .inr (.inr (by omega))
    · exact .inr (.inl h)
  | x :: y :: r =>
    have h2 : c ∈ intL x ∨ c ∈ commaL ((y :: r).map intL) ∨ c = 41 := by simpa [tailL] using h
    rcases h2 with h | h | h
    · have := intL_hi x c h; exact .inr (.inr (by omega))
    · rcases comma_in (y :: r) c h with h | h | h
      · exact .inl h
      · exact .inr (.inr (by omega))
      · exact .inr (.inr (by omega))
    · exact .inr (.inl h)
/-- each part's signs are in the text -/
theorem comma_mem : ∀ {ts : List (List Nat)} {u : List Nat} {c : Nat}, u ∈ ts → c ∈ u → c ∈ commaL ts
  | [], _, _, h, _ => nomatch h
  | x :: r, u, c, h, hc => by
    rcases List.mem_cons.mp h with rfl | h
    · simp [commaL, hc]
    · have := comma_mem h hc
      simp [commaL, this]
theorem tail_mem {ts : List (List Nat)} {u : List Nat} {c : Nat} (h : u ∈ ts) (hc : c ∈ u) : c ∈ tailL ts := by
  match ts, h with
  | [x], h =>
    rw [List.mem_singleton] at h
    subst h
    simp [tailL, hc]
  | x :: y :: r, h =>
    rcases List.mem_cons.mp h with rfl | h
    · simp [tailL, hc]
    · have := comma_mem h hc
      simp [tailL, this]
theorem mem_shownAll : ∀ {ds : List PyData} {e : PyData}, e ∈ ds → tl e.shown ∈ (PyData.shownAll ds).map tl
  | [], _, h => nomatch h
  | x :: r, e, h => by
    rw [PyData.shownAll, List.map_cons]
    rcases List.mem_cons.mp h with rfl | h
    · exact List.mem_cons_self ..
    · exact List.mem_cons_of_mem _ (mem_shownAll h)
/-- a tuple with a part of another kind has another text -/
theorem tup_odd {ds : List PyData} {e : PyData} {c : Nat} (ns : List Int) (h : e ∈ ds) (hc : c ∈ tl e.shown) (bad : c ≠ 32 ∧ c ≠ 41 ∧ ¬ (44 ≤ c ∧ c ≤ 57)) : PyData.shown (.tuple ds) ≠ PyData.shown (.tuple (ns.map PyData.int)) := fun z => by
  have e1 := congrArg tl z
  rw [tl_tup, tl_tup, shownAll_ints] at e1
  have m := tail_mem (mem_shownAll h) hc
  rw [(List.cons.inj e1).2] at m
  have := tail_in ns c m
  omega
/-- what does not begin with a bracket has another text -/
theorem tup_hd {z : Str} {c : Nat} {r : List Nat} (ns : List Int) (h : tl z = c :: r) (bad : c ≠ 40) : z ≠ PyData.shown (.tuple (ns.map PyData.int)) := fun e => by
  rw [e, tl_tup] at h
  exact bad (List.cons.inj h).1.symm
end Lw

namespace Lw
open PySem PySem.Spec PyProof.Rows L2
/-! ### k92: promises, rows -/
abbrev inZ (ns : List Int) : List V := ns.map V.int
section
variable {P : Program} {w : World} {K : PySem.W.Frag} {mg : Str → Option Value} {base : Heap} {H H' : Hp} {Q : VK} {E : XK} {p x y l r : Addr} {v u : V} {q s : Rat} {m n : Nat} {a b c d i j : Int} {ns : List Int} {xs : List V} {bs : List Bool} {ty : String}
theorem inV_ints (n : Int) (ns : List Int) : inV (.int n) (inZ ns) = decide (n ∈ ns) := by
  induction ns with
  | nil => rfl
  | cons m r ih =>
    unfold inV at ih ⊢
    rw [show inZ (m :: r) = .int m :: inZ r from rfl, List.any_cons, ih]
    by_cases e : m = n
    · subst e
      simp [eqV]
    · simp [eqV, e, Ne.symm e]
theorem flat_ints (ns : List Int) : (inZ ns).all flatV = true := by
  rw [List.all_eq_true]
  intro v hv
  obtain ⟨n, _, rfl⟩ := List.mem_map.mp hv
  rfl
theorem not_row (h : SqT K H p (inZ ns)) (q : Q (.bl (!decide (i ∈ ns))) H) : rIn K true (.int i) (.ref p) H Q := ⟨p, inZ ns, rfl, .inr h, rfl, flat_ints ns, by rw [if_pos rfl, inV_ints]; exact q⟩
theorem st_dnew {σ : L2.St} (z : ∀ p H', H p = none → G.Kp H H' → H' p = some (.dK []) → Q (.ref p) H') : tDNewK σ H Q := fun p hp => z p _ hp (G.Kp.new hp) upd_same
/-- a piece with these ends -/
def IsK (K : PySem.W.Frag) (H : Hp) (x : Addr) (a b c d : Int) : Prop := ∃ l r q s m n, IsPQ K H x l r q s m n ∧ q.num = a ∧ (q.den : Int) = b ∧ s.num = c ∧ (s.den : Int) = d ∧ m ≤ 100 ∧ n ≤ 100
theorem IsK.kp (k : G.Kp H H') (h : IsK K H x a b c d) : IsK K H' x a b c d := let ⟨l, r, q, s, m, n, h, e⟩ := h; ⟨l, r, q, s, m, n, h.kp k, e⟩
theorem IsK.md (k : G.Md y H H') (h : IsK K H x a b c d) : IsK K H' x a b c d := let ⟨l, r, q, s, m, n, h, e⟩ := h; ⟨l, r, q, s, m, n, h.md k, e⟩
theorem IsK.nb (h : IsK K H x a b c d) : M92.Nb a b c d := by
  obtain ⟨l, r, q, s, m, n, h, rfl, rfl, rfl, rfl, _⟩ := h
  exact ⟨h.il.r.pos, h.ir.r.pos, h.nb⟩
/-! promises -/
def sp_btwN (K : PySem.W.Frag) : Sp := fun vs H Q _ => ∃ v, vs = [v, .int (-48), .int 48] ∧ ((∃ i, v = .int i ∧ Q (.bl (decide (-48 ≤ i ∧ i ≤ 48))) H) ∨ ∃ ty, OddV H v ty ∧ Q (.bl false) H)
/-- a value, and whether it is a number in the bounds -/
def Elt (H : Hp) (v : V) (b : Bool) : Prop := (∃ i, v = .int i ∧ b = decide (-48 ≤ i ∧ i ≤ 48)) ∨ (∃ ty, OddV H v ty) ∧ b = false
theorem Elt.kp {b : Bool} (k : G.Kp H H') (h : Elt H v b) : Elt H' v b := h.imp id fun ⟨⟨ty, o⟩, e⟩ => ⟨⟨ty, o.kp k⟩, e⟩
theorem btwN_e {b : Bool} (h : Elt H v b) (q : Q (.bl b) H) : sp_btwN K [v, .int (-48), .int 48] H Q E := ⟨v, rfl, h.imp (fun ⟨i, e, eb⟩ => ⟨i, e, eb ▸ q⟩) fun ⟨⟨ty, o⟩, eb⟩ => ⟨ty, o, eb ▸ q⟩⟩
/-- a list or a tuple -/
def SqE (H : Hp) (p : Addr) (xs : List V) (bs : List Bool) : Prop := G.SqX H p xs ∧ xs.length ≤ 60 ∧ xs.length = bs.length ∧ ∀ (i : Nat) (v : V) (b : Bool), xs[i]? = some v → bs[i]? = some b → Elt H v b
/-- neither a list nor a tuple -/
def NoSq (H : Hp) (v : V) : Prop := (∃ ty, OddV H v ty ∧ ty ≠ "list" ∧ ty ≠ "tuple") ∨ ∃ i, v = .int i
theorem NoSq.kp (k : G.Kp H H') (h : NoSq H v) : NoSq H' v := h.imp (fun ⟨ty, o, n⟩ => ⟨ty, o.kp k, n⟩) id
def sp_numbers (K : PySem.W.Frag) : Sp := fun vs H Q _ => ∃ v, vs = [v] ∧ ((∃ p xs bs, v = .ref p ∧ SqE H p xs bs ∧ ∀ H', G.Kp H H' → Q (.bl (bs.all id)) H') ∨
  (NoSq H v ∧ ∀ H', G.Kp H H' → Q (.bl false) H'))
def sp_weights (K : PySem.W.Frag) : Sp := fun vs H Q _ => ∃ x a b c d i j, vs = [.ref x, .int i, .int j] ∧ IsK K H x a b c d ∧ G.Bd 8 i ∧ G.Bd 8 j ∧
  ((i = j ∧ ∀ p H', H p = none → G.Kp H H' → H' p = some (.tup [.int b, .int d, .int (-1)]) → Q (.ref p) H') ∨
   (i ≠ j ∧ ∀ p H', H p = none → G.Kp H H' → H' p = some (.tup [.int (M92.lf a b c d i j), .int (M92.rt a b c d i j), .int (M92.wh a b c d i j)]) → Q (.ref p) H'))
theorem SqE.kp (k : G.Kp H H') (h : SqE H p xs bs) : SqE H' p xs bs := ⟨h.1.kp k, h.2.1, h.2.2.1, fun i v b e1 e2 => (h.2.2.2 i v b e1 e2).kp k⟩
/-- once around -/
def Round (a b c d : Int) (os : List Int) : Prop := os.length = 1 ∨ M92.Around a b c d (M92.At os) os.length
theorem weights_x {L R : Int} (h : IsK K H x a b c d) (bi : G.Bd 8 i) (bj : G.Bd 8 j) (e : (i = j ∧ L = b ∧ R = d) ∨ (i ≠ j ∧ L = M92.lf a b c d i j ∧ R = M92.rt a b c d i j)) (q : ∀ (w : Int) p H', H p = none → G.Kp H H' → H' p = some (.tup [.int L, .int R, .int w]) → Q (.ref p) H') : sp_weights K [.ref x, .int i, .int j] H Q E := by
  refine ⟨x, a, b, c, d, i, j, rfl, h, bi, bj, ?_⟩
  rcases e with ⟨e, rfl, rfl⟩ | ⟨e, rfl, rfl⟩
  · exact .inl ⟨e, fun p H' => q _ p H'⟩
  · exact .inr ⟨e, fun p H' => q _ p H'⟩
def sp_around (K : PySem.W.Frag) : Sp := fun vs H Q _ => ∃ x p a b c d os, vs = [.ref x, .ref p] ∧ IsK K H x a b c d ∧ SqT K H p (inZ os) ∧ os.length ≤ 30 ∧ 1 ≤ os.length ∧ (∀ n ∈ os, -48 ≤ n ∧ n ≤ 48) ∧ os.Nodup ∧ ∀ (H' : Hp) (t : Bool), G.Kp H H' → (t = true ↔ Round a b c d os) → Q (.bl t) H'
theorem around_x {os : List Int} (h : IsK K H x a b c d) (e : SqT K H p (inZ os)) (l : os.length ≤ 30) (l1 : 1 ≤ os.length) (bd : ∀ n ∈ os, -48 ≤ n ∧ n ≤ 48) (nd : os.Nodup) (q : ∀ (H' : Hp) (t : Bool), G.Kp H H' → (t = true ↔ Round a b c d os) → Q (.bl t) H') : sp_around K [.ref x, .ref p] H Q E :=
  ⟨x, p, a, b, c, d, os, rfl, h, e, l, l1, bd, nd, q⟩
/-- what shows_ring tells -/
def Shows (a b c d : Int) (ns os : List Int) : Prop := os.head? = some 0 ∧ (∃ ws : List Int, ws.Pairwise (· < ·) ∧ (∀ k, k ∈ ws ↔ k = 0 ∨ k ∈ ns) ∧ os.Perm ws) ∧ Round a b c d os
/-- no tuple of numbers -/
def NoOrd (H : Hp) (u : V) : Prop := ((∃ ty, OddV H u ty ∧ ty ≠ "tuple") ∨ ∃ i, u = .int i) ∨ ∃ (t : Addr) (xs : List V) (bs : List Bool), u = .ref t ∧ H t = some (.tup xs) ∧ SqE H t xs bs ∧ bs.all id = false
theorem NoOrd.kp (k : G.Kp H H') (h : NoOrd H u) : NoOrd H' u := h.imp (fun h => h.imp (fun ⟨ty, o, n⟩ => ⟨ty, o.kp k, n⟩) id) fun ⟨t, xs, bs, e, h, s, z⟩ => ⟨t, xs, bs, e, k _ _ h, s.kp k, z⟩
def NoNum (H : Hp) (v : V) : Prop := NoSq H v ∨ ∃ (p : Addr) (xs : List V) (bs : List Bool), v = .ref p ∧ SqE H p xs bs ∧ bs.all id = false
theorem NoNum.kp (k : G.Kp H H') (h : NoNum H v) : NoNum H' v := h.imp (fun h => h.kp k) fun ⟨p, xs, bs, e, s, z⟩ => ⟨p, xs, bs, e, s.kp k, z⟩
def In48 (ns : List Int) : Prop := ns.length ≤ 25 ∧ ∀ n ∈ ns, -48 ≤ n ∧ n ≤ 48
def sp_shows (K : PySem.W.Frag) : Sp := fun vs H Q _ => ∃ x a b c d v u, vs = [.ref x, v, u] ∧ IsK K H x a b c d ∧
  ((NoNum H v ∧ ∀ H', G.Kp H H' → Q (.bl false) H') ∨
   ∃ (r : Addr) (ns : List Int), v = .ref r ∧ G.SqX H r (inZ ns) ∧ In48 ns ∧
     ((NoOrd H u ∧ ∀ H', G.Kp H H' → Q (.bl false) H') ∨
      ∃ (t : Addr) (os : List Int), u = .ref t ∧ H t = some (.tup (inZ os)) ∧ os.length ≤ 25 ∧ (∀ n ∈ os, G.Bd 8 n) ∧ ∀ (H' : Hp) (τ : Bool), G.Kp H H' → (τ = true ↔ Shows a b c d ns os) → Q (.bl τ) H'))
theorem numbers_no (h : NoNum H v) (q : ∀ H', G.Kp H H' → Q (.bl false) H') : sp_numbers K [v] H Q E := by
  rcases h with h | ⟨p, xs, bs, rfl, s, z⟩
  · exact ⟨v, rfl, .inr ⟨h, q⟩⟩
  · exact ⟨_, rfl, .inl ⟨p, xs, bs, rfl, s, fun H' k => by rw [z]; exact q H' k⟩⟩
theorem numbers_z {r : Addr} (h : G.SqX H r (inZ ns)) (l : ns.length ≤ 60) (q : ∀ H', G.Kp H H' → Q (.bl (ns.all fun n => decide (-48 ≤ n ∧ n ≤ 48))) H') : sp_numbers K [.ref r] H Q E :=
  ⟨_, rfl, .inl ⟨r, inZ ns, ns.map fun n => decide (-48 ≤ n ∧ n ≤ 48), rfl, ⟨h, by rw [List.length_map]; exact l, by rw [List.length_map, List.length_map], fun i v b e1 e2 => by
    rw [List.getElem?_map] at e1 e2
    cases hn : ns[i]? with
    | none => rw [hn] at e1; cases e1
    | some n =>
      rw [hn] at e1 e2
      cases e1
      cases e2
      exact .inl ⟨n, rfl, rfl⟩⟩, fun H' k => by
    rw [List.all_map]
    exact q H' k⟩⟩
/-- a pair whose difference the bottom divides -/
def PairB (ws : List Int) (m : Int) : Prop := ∃ x ∈ ws, ∃ y ∈ ws, x < y ∧ (y - x) % m = 0
def sp_pair : Sp := fun vs H Q _ => ∃ (r : Addr) (ws : List Int) (m : Int), vs = [.ref r, .int m] ∧ H r = some (.lst (inZ ws)) ∧ ws.length ≤ 25 ∧ (∀ n ∈ ws, G.Bd 8 n) ∧ 1 ≤ m ∧ m ≤ 96 ∧ (∀ z H', G.Kp H H' → PairB ws m → Q (.ref z) H') ∧ ∀ H', G.Kp H H' → ¬ PairB ws m → Q .non H'
def sp_meet : Sp := fun vs H Q _ => ∃ (e r : Addr) (ws : List Int) (a b c d : Int), vs = [.ref e, .ref r] ∧ H e = some (.tup [.int a, .int b, .int c, .int d]) ∧ H r = some (.lst (inZ ws)) ∧ ws.length ≤ 25 ∧ (∀ n ∈ ws, G.Bd 8 n) ∧ 0 < b ∧ G.Bd 100 a ∧ G.Bd 100 b ∧ G.Bd 100 c ∧ G.Bd 100 d ∧ (∀ z H', G.Kp H H' → M92.Meets a b c d ws → Q (.ref z) H') ∧ ∀ H', G.Kp H H' → ¬ M92.Meets a b c d ws → Q .non H'
theorem pair_x {r : Addr} {ws : List Int} {m : Int} (h : H r = some (.lst (inZ ws))) (l : ws.length ≤ 25) (b : ∀ n ∈ ws, G.Bd 8 n) (m1 : 1 ≤ m) (m9 : m ≤ 96) (q1 : ∀ z H', G.Kp H H' → PairB ws m → Q (.ref z) H') (q2 : ∀ H', G.Kp H H' → ¬ PairB ws m → Q .non H') : sp_pair [.ref r, .int m] H Q E := ⟨r, ws, m, rfl, h, l, b, m1, m9, q1, q2⟩
/-- the order of the keys -/
def IsOrd (a b c d : Int) (ws os : List Int) : Prop := os.Perm ws ∧ os.Pairwise fun x y => M92.key a b c d x < M92.key a b c d y
def sp_order : Sp := fun vs H Q _ => ∃ (e r : Addr) (ws : List Int) (a b c d : Int), vs = [.ref e, .ref r, .int 1, .int 1] ∧ H e = some (.tup [.int a, .int b, .int c, .int d]) ∧ H r = some (.lst (inZ ws)) ∧ ws.length ≤ 25 ∧ (∀ n ∈ ws, G.Bd 8 n) ∧ 0 < b ∧ 0 < d ∧ G.Bd 100 a ∧ G.Bd 100 b ∧ G.Bd 100 c ∧ G.Bd 100 d ∧
  ∀ z H' (os : List Int), G.Kp H H' → H' z = some (.tup (inZ os)) → os.length ≤ ws.length → (ws ≠ [] → os ≠ []) → (∀ n ∈ os, n ∈ ws) → ((∀ x ∈ ws, ∀ y ∈ ws, x ≠ y → M92.key a b c d x ≠ M92.key a b c d y) → ws.Nodup → IsOrd a b c d ws os) → Q (.ref z) H'
def sp_spot : Sp := fun vs H Q _ => ∃ (e : Addr) (a b c d : Int), vs = [.ref e, .int 1, .int 1] ∧ H e = some (.tup [.int a, .int b, .int c, .int d]) ∧ G.Bd 100 a ∧ G.Bd 100 b ∧ G.Bd 100 c ∧ G.Bd 100 d ∧ ∀ z H', G.Kp H H' → H' z = some (.tup [.int (a + c), .int (b + d)]) → Q (.ref z) H'
theorem spot_x {e : Addr} (h : H e = some (.tup [.int a, .int b, .int c, .int d])) (ba : G.Bd 100 a) (bb : G.Bd 100 b) (bc : G.Bd 100 c) (bd : G.Bd 100 d) (q : ∀ z H', G.Kp H H' → H' z = some (.tup [.int (a + c), .int (b + d)]) → Q (.ref z) H') : sp_spot [.ref e, .int 1, .int 1] H Q E := ⟨e, a, b, c, d, rfl, h, ba, bb, bc, bd, q⟩
end
end Lw

local macro_rules | `(tactic| walk_at "gx") => `(tactic| ((with_reducible refine Lw.pick_p (l := ?z2) (n := ?z0) (xs := ?z1) ?h1 ?h2 ?h3 ?h4 ?h5 ?h6 ?_); (case h1 => walk_at "hp"); (case h2 => omega); (case h3 => walk_at "hp"); (case h4 => first | assumption | (apply Ne.symm; assumption) | (refine Lw.PenL.neu (H := ?zH) (l := ?zl) (n := ?zn) ?e1 ?e2; (case e1 => assumption); (case e2 => walk_at "hp"))); (case h5 => first | (intro hz; cases hz) | simp); (case h6 => (simp only [List.length_cons, List.length_nil, List.length_append]; omega)); intro _ _ _ _ _))
local macro_rules | `(tactic| walk_at "hp") => `(tactic| (with_reducible refine G.Md.lst (p := ?zp) (H := ?zG) ?hm ?hh ?hn; (case hm => assumption); (case hn => refine Lw.PenL.neu (H := ?zH) (l := ?zl) (n := ?zn) ?e1 ?e2; (case e1 => assumption); (case e2 => walk_at "hp")); (case hh => walk_at "hp")))
local macro_rules | `(tactic| walk_at "g") => `(tactic| ((with_reducible refine G.add_ll (xs := ?z0) (ys := ?z1) ?h1 ?h2 ?l ?_); (case h1 => walk_at "hp"); (case h2 => walk_at "hp"); (case l => (simp only [List.length_cons, List.length_nil]; omega)); intro _ _ _ _ _))

-- k03: divided by 0
local macro_rules | `(tactic| walk_at "gx") => `(tactic| first
  | ((with_reducible refine Lw.fdivx_QQ (q := ?z0) (m := ?z1) (l := ?z2) ?h ?k ?h1 ?h2 ?_); (case h => walk_at "hp"); (case k => walk_at "hp"); (case h1 => omega); (case h2 => omega); intro _ _)
  | ((with_reducible refine Lw.fdivx_Qi (q := ?z0) (m := ?z1) ?h ?_); (case h => walk_at "hp"); intro _ _)
  | ((with_reducible refine Lw.overx_Q (q := ?z0) (m := ?z1) (l := ?z2) ?h ?k ?h2 ?_); (case h => walk_at "hp"); (case k => first | exact Lw.NumQ.zero | walk_at "hp"); (case h2 => first | omega | decide +kernel); intro _ _))
local macro_rules | `(tactic| walk_at "gx") => `(tactic| first
  | with_reducible refine G.st_mkS ?_
  | ((with_reducible refine G.mkS1 ?_); intro _ _ _ _ _)
  | with_reducible refine G.st_xf ?_)

-- k03: lists and tuples alike
local macro_rules | `(tactic| walk_at "gx") => `(tactic| first
  | with_reducible refine G.st_rev ?_
  | ((with_reducible refine G.revK (xs := ?z0) (zs := ?z1) ?h ?e ?_); (case h => walk_at "hp"); (case e => first | rfl | (simp only [List.reverse_cons, List.reverse_nil, List.nil_append, List.cons_append]; rfl)); intro _ _ _ _ _)
  | ((with_reducible refine G.tup_l (xs := ?z0) ?h ?_); (case h => walk_at "hp"); intro _ _ _ _ _))

-- k92
local macro_rules | `(tactic| walk_at "hp") => `(tactic| first
  | (refine Lw.IsK.kp (by assumption) ?_; walk_at "hp")
  | (refine Lw.IsK.md (by assumption) ?_; walk_at "hp"))
local macro_rules | `(tactic| walk_at "gx") => `(tactic| first
  | ((with_reducible refine Lw.not_row (ns := ?z0) ?h ?_); (case h => walk_at "hp"))
  | ((with_reducible refine Lw.btwN_e ?h ?_); (case h => assumption))
  | with_reducible refine G.st_revT ?_)

-- k92: defs
local macro_rules | `(tactic| walk_at "gx") => `(tactic| first
  | with_reducible refine G.st_enT ?_
  | ((with_reducible refine Lw.st_dnew ?_); intro _ _ _ _ _))

-- dicts (G45)
local macro_rules | `(tactic| walk_at "g") => `(tactic| first
  | with_reducible refine G.st_din ?_
  | with_reducible refine G.st_dnotin ?_
  | with_reducible refine G.st_dget ?_
  | with_reducible refine G.st_dput ?_
  | ((with_reducible refine G.din_s (kvs := ?z0) ?h ?_); (case h => walk_at "hp"))
  | ((with_reducible refine G.din_i (kvs := ?z0) ?h ?_); (case h => walk_at "hp"))
  | ((with_reducible refine G.dnot_s (kvs := ?z0) ?h ?_); (case h => walk_at "hp"))
  | ((with_reducible refine G.dnot_i (kvs := ?z0) ?h ?_); (case h => walk_at "hp")))

-- the plain forms first
local macro_rules | `(tactic| walk_at "g") => `(tactic| first
  | ((with_reducible refine G.st_var (v := ?z0) ?h ?_); (case h => rfl))
  | with_reducible refine G.st_c ?_
  | with_reducible refine G.st_op ?_
  | with_reducible refine G.st_seq ?_
  | with_reducible refine G.st_asg ?_
  | with_reducible refine G.st_test ?_
  | with_reducible refine G.st_B ?_
  | with_reducible refine G.st_cons ?_
  | with_reducible refine G.st_nil ?_
  | with_reducible refine G.st_call ?_
  | with_reducible refine G.st_exbl ?_
  | with_reducible refine G.st_exblP ?_
  | with_reducible refine G.st_iteT ?_
  | with_reducible refine G.st_iteF ?_
  | with_reducible refine G.st_ifS ?_
  | with_reducible refine G.st_ret ?_
  | with_reducible refine G.st_methP ?_
  | with_reducible refine G.st_fld ?_
  | with_reducible refine G.st_exint ?_
  | with_reducible refine G.st_exintP ?_
  | with_reducible refine G.st_tup ?_
  | with_reducible refine G.st_lst ?_
  | with_reducible refine G.st_mk ?_
  | with_reducible refine G.st_and ?_
  | with_reducible refine G.st_or ?_
  | with_reducible refine G.st_not ?_)
-- what is at hand first
local macro_rules | `(tactic| walk_at "hp") => `(tactic| assumption)
-- what a test says; nothing is unfolded
local macro_rules | `(tactic| walk_at "gif") => `(tactic| ((with_reducible refine G.st_ite ?_ ?_) <;> (intro hc; (try simp only [decide_eq_true_eq, decide_eq_false_iff_not, Bool.not_eq_true', Bool.not_eq_false', Bool.and_eq_true, Bool.or_eq_true, Bool.and_eq_false_iff, Bool.or_eq_false_iff, Bool.not_true, Bool.not_false, bne_iff_ne, beq_iff_eq, ne_eq, not_true_eq_false, not_false_eq_true, Bool.false_eq_true, Bool.true_eq_false, reduceCtorEq] at hc); (try (exfalso; with_reducible first | assumption | contradiction | omega)))))

namespace Lw
open PySem PySem.Spec PyProof.Rows L2
section
variable {P : Program} {w : World} {K : PySem.W.Frag} {mg : Str → Option Value} {base : Heap}
section
variable {H H' : Hp} {Q : VK} {p a : Addr} {xs : List V}
section
variable {p : Prop} [Decidable p] {A B : Prop}
theorem ifNF' (q : A) : if (!false) = true then A else B := by rw [if_pos (by rfl)]; exact q
theorem ifNT' (q : B) : if (!true) = true then A else B := by rw [if_neg (by simp)]; exact q
theorem ifdT (h : p) (q : A) : if decide p = true then A else B := by rw [decide_eq_true h]; exact q
theorem ifdF (h : ¬ p) (q : B) : if decide p = true then A else B := by rw [decide_eq_false h, if_neg Bool.false_ne_true]; exact q
end
theorem kit_2' {t u v : Value} {b b' : Bool} (h : PySem.W.kitOne K t u = some b) (h' : PySem.W.kitOne K t v = some b') : PySem.W.kitAny K t [u, v] = some (b || b') := by
  cases b <;> cases b' <;> simp [PySem.W.kitAny, h, h']
theorem isi_no {v : V} (h : NoSq H v) (e : H a = some (.tup [.ty "list", .ty "tuple"])) (q : Q (.bl false) H) : G.rIsi2 K [v, .ref a] H Q := by
  rcases h with ⟨ty, o, n1, n2⟩ | ⟨i, rfl⟩
  · refine G.isi_2 e (.ty _) (.ty _) o.tx (kit_2' (b := false) (b' := false) ?_ ?_) q
    · cases o <;> first | exact absurd rfl n1 | exact L2.kit_ty (by decide +kernel)
    · cases o <;> first | exact absurd rfl n2 | exact L2.kit_ty (by decide +kernel)
  · exact G.isi_2 e (.ty _) (.ty _) (.base (.int _)) (kit_2' (b := false) (b' := false) (L2.kit_ty (by decide +kernel)) (L2.kit_ty (by decide +kernel))) q
theorem isi_lt (h : G.SqX H p xs) (k : G.Kp H H') (e : H' a = some (.tup [.ty "list", .ty "tuple"])) (q : Q (.bl true) H') : G.rIsi2 K [.ref p, .ref a] H' Q := by
  rcases h with h | h
  · exact G.isi_2 e (.ty "list") (.ty "tuple") (.base (.lst (k _ _ h))) (by rfl) q
  · exact G.isi_2 e (.ty "list") (.ty "tuple") (.base (.tup (k _ _ h))) (by rfl) q
end
theorem ok_is_between (T : Tx K mg) : G.FnG P w K mg base CX0 2 (a_is_between K) (G.fdOf K (a_is_between K)) ["value", "least", "most"] (sp_btwN K) := by
  refine G.ok_of (F_is_between T) sc_is_between (fun vs H Q E h => ?_) (fun cdv A outer s H vs Q E hr h => ?_)
  · obtain ⟨v, rfl, _⟩ := h
    rfl
  · obtain ⟨v, rfl, ⟨i, rfl, q⟩ | ⟨ty, o, q⟩⟩ := h
    · refine ⟨_, (pss_one (ps_ret (pe_and (G.pe_callG (okN_is_integer T) (hr.mono (by first | decide | omega)) rfl (gl_is_integer T) (F_is_integer T).kp (bi_is_integer T) .nil pass0 (pa_cons (pv 0) pa_nil)) (pe_one (pe_chain G.op_leG G.op_leG (pv 1) (pv 0) (pv 2)))))), ?_⟩
      walk_at "start"
      walk_at "gob"
      · rename_i hc
        rw [show decide (-48 ≤ i ∧ i ≤ 48) = decide (i ≤ 48) by rw [decide_eq_decide]; omega] at q
        exact q
      · rename_i hc
        rw [decide_eq_false (by omega)] at q
        exact q
    · have nv : NoInt K H v := .inl ⟨ty, o⟩
      refine ⟨_, (pss_one (ps_ret (pe_and (G.pe_callG (okN_is_integer T) (hr.mono (by first | decide | omega)) rfl (gl_is_integer T) (F_is_integer T).kp (bi_is_integer T) .nil pass0 (pa_cons (pv 0) pa_nil)) (pe_one (pe_chain G.op_leG G.op_leG (pv 1) (pv 0) (pv 2)))))), ?_⟩
      walk_at "start"
      walk_at "gos"
      exact q
theorem ok_weights (T : Tx K mg) : G.FnG P w K mg base CX0 1 (a_weights K) (G.fdOf K (a_weights K)) ["piece", "low", "high"] (sp_weights K) := by
  refine G.ok_of (F_weights T) sc_weights (fun vs H Q E h => ?_) (fun cdv A outer s H vs Q E hr h => ?_)
  · obtain ⟨x, a, b, c, d, i, j, rfl, _⟩ := h
    rfl
  · obtain ⟨x, a, b, c, d, i, j, rfl, hx, bi, bj, h⟩ := h
    obtain ⟨l, r, q, s, m, n, hp, ea, eb, ec, ed, m1, n1⟩ := hx
    have il := hp.il.r
    have ir := hp.ir.r
    have ba := hp.il.bn.mono m1
    have bb := hp.il.bd.mono m1
    have bc := hp.ir.bn.mono n1
    have bd := hp.ir.bd.mono n1
    rw [ea] at il ba
    rw [eb] at il bb
    rw [ec] at ir bc
    rw [ed] at ir bd
    have b0 := il.pos
    have d0 := ir.pos
    refine ⟨_, (pss_cons (ps_asg (pe_tup (pa_cons (pe_fld (pe_fld (pv 0) rfl) rfl) (pa_cons (pe_fld (pe_fld (pv 0) rfl) rfl) (pa_cons (pe_fld (pe_fld (pv 0) rfl) rfl) (pa_cons (pe_fld (pe_fld (pv 0) rfl) rfl) pa_nil))))) (pg_tup (n := 4) (by rfl) (pgs_cons (pg_name (i := 3) sc_weights.nd rfl (Or.inl rfl)) (pgs_cons (pg_name (i := 4) sc_weights.nd rfl (Or.inl rfl)) (pgs_cons (pg_name (i := 5) sc_weights.nd rfl (Or.inl rfl)) (pgs_cons (pg_name (i := 6) sc_weights.nd rfl (Or.inl rfl)) pgs_nil))))))
    (pss_cons (ps_if (pt_cmpR (G.op_eqG hr.units) (pv 1) (pv 2) (nomark _)) (pss_one (ps_ret (pe_tup (pa_cons (pv 4) (pa_cons (pv 6) (pa_cons (pe_un G.un_negG pe_int) pa_nil)))))) pss_nil)
    (pss_cons (ps_set (i := 7) sc_weights.nd rfl (Or.inl rfl) (pe_op G.op_subG (pv 2) (pv 1)))
    (pss_cons (ps_set (i := 8) sc_weights.nd rfl (Or.inl rfl) (pe_op G.op_divG (pe_op G.op_mulG (pv 7) (pe_op G.op_addG (pv 3) (pv 5))) (pe_op G.op_addG (pv 4) (pv 6))))
    (pss_one (ps_ret (pe_tup (pa_cons (pe_op G.op_subG (pe_op G.op_mulG (pv 7) (pv 3)) (pe_op G.op_mulG (pv 8) (pv 4))) (pa_cons (pe_op G.op_subG (pe_op G.op_mulG (pv 7) (pv 5)) (pe_op G.op_mulG (pv 8) (pv 6))) (pa_cons (pv 8) pa_nil)))))))))), ?_⟩
    walk_at "start"
    walk_at "gos"
    rename_i tp H1 n1 k1 e1
    rcases h with ⟨rfl, k⟩ | ⟨ne, k⟩
    · refine ifdT rfl ?_
      walk_at "gos"
      rename_i t2 H2 n2 k2 e2
      exact k _ _ (k1.back n2) (k1.trans k2) e2
    · refine ifdF ne ?_
      have bm : G.Bd 300 ((j - i) * (a + c)) := by walk_at "bdw"
      have bw : G.Bd 300 ((j - i) * (a + c) / (b + d)) := bm.of_le (Int.natAbs_ediv_le_natAbs _ _)
      walk_at "gos"
      rename_i t2 H2 n2 k2 e2
      exact k _ _ (k1.back n2) (k1.trans k2) e2
theorem ok_are_numbers (T : Tx K mg) : G.FnG P w K mg base CX0 3 (a_are_numbers K) (G.fdOf K (a_are_numbers K)) ["values"] (sp_numbers K) := by
  refine G.ok_of (F_are_numbers T) sc_are_numbers (fun vs H Q E h => ?_) (fun cdv A outer s H vs Q E hr h => ?_)
  · obtain ⟨v, rfl, _⟩ := h
    rfl
  · obtain ⟨v, rfl, ⟨p, xs, bs, rfl, hp, k⟩ | ⟨ns, k⟩⟩ := h
    · refine ⟨_, (pss_cons (ps_if (pt_not (pt_val (pe_callB G.call_isi2 (by rfl) (fr_isinstance T) boot_isinstance (pa_cons (pv 0) (pa_cons (pe_tup (pa_cons (G.pe_ty (by rfl) (fr_list T) boot_list) (pa_cons (G.pe_ty (by rfl) (fr_tuple T) boot_tuple) pa_nil))) pa_nil))))) (pss_one (ps_ret pe_bl)) pss_nil)
    (pss_one (ps_ret (pe_callB (cr_all rfl) (by rfl) (fr_all T) boot_all (pa_cons (pe_lc (own := [("value", 1)]) (by rfl) sc_are_numbers.nd (G.pi_varX (pv 0)) (blkOk_by (N := ["values", "value"]) (sc := defScope s_are_numbers) (by decide +kernel)) (fun _ _ _ _ _ => (pg_name (i := 1) sc_are_numbers.nd rfl (Or.inl rfl))) (fun _ _ _ _ _ => pts_nil) (fun _ _ _ _ _ => (G.pe_callG (ok_is_between T) (hr.mono (by first | decide | omega)) rfl (gl_is_between T) (F_is_between T).kp (bi_is_between T) .nil pass0 (pa_cons (pv 1) (pa_cons (pe_un G.un_negG (Exists.elim (gi_MOST_NUMBER T) fun _ hM => pe_glob (v := .int 48) rfl hM ⟨_, rfl⟩)) (pa_cons (Exists.elim (gi_MOST_NUMBER T) fun _ hM => pe_glob (v := .int 48) rfl hM ⟨_, rfl⟩) pa_nil)))))) pa_nil))))), ?_⟩
      walk_at "start"
      walk_at "gos"
      rename_i cs H1 n1 k1 e1
      obtain ⟨hx, lx, lb, hv⟩ := hp
      refine isi_lt hx k1 e1 ?_
      walk_at "gos"
      refine G.st_varX rfl (hx.kp k1) fun J hJ => ?_
      refine G.lc_map1 (σ0 := [some (.ref p), none]) (xs := xs) (ys := bs.map V.bl) hJ rfl (fun x => rfl) (by simp [lb]) (by omega) ?_ ?_
      · intro i v y H' R hx2 hy k2 hR
        obtain ⟨b, hb, rfl⟩ : ∃ b, bs[i]? = some b ∧ V.bl b = y := by simpa using hy
        have el := (hv i v b hx2 hb).kp (k1.trans k2)
        walk_at "gos"
        exact btwN_e (K := K) (E := E0) el (hR _ G.Kp.refl)
      · intro D H2 nD eD k2
        walk_at "gos"
        refine G.all_l (SqL.of eD) (k _ (k1.trans k2))
    · refine ⟨_, (pss_cons (ps_if (pt_not (pt_val (pe_callB G.call_isi2 (by rfl) (fr_isinstance T) boot_isinstance (pa_cons (pv 0) (pa_cons (pe_tup (pa_cons (G.pe_ty (by rfl) (fr_list T) boot_list) (pa_cons (G.pe_ty (by rfl) (fr_tuple T) boot_tuple) pa_nil))) pa_nil))))) (pss_one (ps_ret pe_bl)) pss_nil)
    (pss_one (ps_ret (pe_callB (cr_all rfl) (by rfl) (fr_all T) boot_all (pa_cons (pe_lc (own := [("value", 1)]) (by rfl) sc_are_numbers.nd (G.pi_varX (pv 0)) (blkOk_by (N := ["values", "value"]) (sc := defScope s_are_numbers) (by decide +kernel)) (fun _ _ _ _ _ => (pg_name (i := 1) sc_are_numbers.nd rfl (Or.inl rfl))) (fun _ _ _ _ _ => pts_nil) (fun _ _ _ _ _ => (G.pe_callG (ok_is_between T) (hr.mono (by first | decide | omega)) rfl (gl_is_between T) (F_is_between T).kp (bi_is_between T) .nil pass0 (pa_cons (pv 1) (pa_cons (pe_un G.un_negG (Exists.elim (gi_MOST_NUMBER T) fun _ hM => pe_glob (v := .int 48) rfl hM ⟨_, rfl⟩)) (pa_cons (Exists.elim (gi_MOST_NUMBER T) fun _ hM => pe_glob (v := .int 48) rfl hM ⟨_, rfl⟩) pa_nil)))))) pa_nil))))), ?_⟩
      walk_at "start"
      walk_at "gos"
      rename_i cs H1 n1 k1 e1
      refine isi_no (ns.kp k1) e1 ?_
      walk_at "gos"
      exact k _ k1
end
end Lw

namespace Lw
open PySem PySem.Spec PyProof.Rows L2
section
variable {P : Program} [hP : G.SupP P "/claim/cut.py"] {w : World} {K : PySem.W.Frag} {mg : Str → Option Value} {base : Heap}
section
variable {a b c d : Int} {os : List Int}
theorem bd_sum {f : Nat → Int} {k n : Nat} (h : ∀ i < n, G.Bd k (f i)) : (M92.sumTo f n).natAbs ≤ n * 2 ^ k := by
  induction n with
  | zero => simp [M92.sumTo]
  | succ n ih =>
    have h1 := ih fun i hi => h i (by omega)
    have h2 : (f n).natAbs < 2 ^ k := h n (by omega)
    rw [M92.sumTo, Nat.succ_mul]
    omega
/-- the steps of one round -/
theorem steps (l1 : 1 ≤ os.length) (nd : os.Nodup) (nb : M92.Nb a b c d) : ∃ fL fR : Nat → Int, (∀ i < os.length, (M92.At os i = M92.At os (i + 1) ∧ fL i = b ∧ fR i = d) ∨ (M92.At os i ≠ M92.At os (i + 1) ∧ fL i = M92.lf a b c d (M92.At os i) (M92.At os (i + 1)) ∧ fR i = M92.rt a b c d (M92.At os i) (M92.At os (i + 1)))) ∧
    (Round a b c d os ↔ (∀ i < os.length, 0 ≤ fL i ∧ 0 ≤ fR i ∧ fL i + fR i ≠ 0) ∧ M92.sumTo fL os.length = b ∧ M92.sumTo fR os.length = d) := by
  have b0 := nb.b0
  have d0 := nb.d0
  by_cases h1 : os.length = 1
  · refine ⟨fun _ => b, fun _ => d, fun i hi => .inl ⟨?_, rfl, rfl⟩, fun _ => ⟨fun i _ => ⟨Int.le_of_lt b0, Int.le_of_lt d0, show b + d ≠ 0 by omega⟩, ?_, ?_⟩, fun _ => .inl h1⟩
    · unfold M92.At
      rw [h1, Nat.mod_one, Nat.mod_one]
    · rw [h1]; simp [M92.sumTo]
    · rw [h1]; simp [M92.sumTo]
  · refine ⟨fun i => M92.lf a b c d (M92.At os i) (M92.At os (i + 1)), fun i => M92.rt a b c d (M92.At os i) (M92.At os (i + 1)), fun i hi => .inr ⟨fun e => ?_, rfl, rfl⟩, fun h => ?_, fun h => .inr h⟩
    · rcases Nat.lt_or_ge (i + 1) os.length with z | z
      · rw [M92.at_lt hi, M92.at_lt z] at e
        have := M92.nd_inj nd e
        omega
      · have e2 : i + 1 = os.length := by omega
        rw [e2, M92.at_n, M92.at_lt hi, M92.at_lt (by omega)] at e
        have := M92.nd_inj nd e
        omega
    · exact h.resolve_left h1
theorem bd48 {n : Int} (h : -48 ≤ n ∧ n ≤ 48) : G.Bd 8 n := (G.Bd.of_le (G.Bd.lit 48) (by omega)).mono (by decide)
theorem at_bd (l1 : 1 ≤ os.length) (bd : ∀ n ∈ os, -48 ≤ n ∧ n ≤ 48) (i : Nat) : -48 ≤ M92.At os i ∧ M92.At os i ≤ 48 := by
  have h : i % os.length < os.length := Nat.mod_lt _ (by omega)
  have e : M92.At os i = os[i % os.length] := by
    unfold M92.At
    rw [List.getD_eq_getElem?_getD, List.getElem?_eq_getElem h, Option.getD_some]
  rw [e]
  exact bd _ (List.getElem_mem h)
end
section
variable {H : Hp} {Q : VK} {p q : Addr} {i j m n : Int}
theorem eq_2i (h1 : H p = some (.tup [.int i, .int j])) (h2 : H q = some (.tup [.int m, .int n])) (z : Q (.bl (decide (i = m ∧ j = n))) H) : G.rEqG K (.ref p) (.ref q) H Q :=
  G.eq_dd (.tup (.of h1) (.cons (.int i) (.cons (.int j) .nil))) (.tup (.of h2) (.cons (.int m) (.cons (.int n) .nil))) (by simp [SeqAt.shaped, PyData.canLay0, PyData.canLayAll0, PyData.depth, PyData.depthAll]) (by simp [SeqAt.shaped, PyData.canLay0, PyData.canLayAll0, PyData.depth, PyData.depthAll]) (by
    have e : PyData.eqv (.tuple [.int i, .int j]) (.tuple [.int m, .int n]) = decide (i = m ∧ j = n) := by
      by_cases e1 : i = m <;> by_cases e2 : j = n <;> simp [PyData.eqv, PyData.eqvAll, e1, e2]
    rw [e]
    exact z)
end
theorem ok_is_around (T : Tx K mg) : G.FnG P w K mg base CX0 2 (a_is_around K) (G.fdOf K (a_is_around K)) ["piece", "order"] (sp_around K) := by
  refine G.ok_of (F_is_around T) sc_is_around (fun vs H Q E h => ?_) (fun cdv A outer s H vs Q E hr h => ?_)
  · obtain ⟨x, p, a, b, c, d, os, rfl, _⟩ := h
    rfl
  · obtain ⟨x, p, a, b, c, d, os, rfl, hx, hp, l, l1, bd, nd, k⟩ := h
    have hl : (inZ os).length = os.length := List.length_map ..
    refine ⟨_, (pss_cons (ps_asg (pe_tup (pa_cons pe_int (pa_cons pe_int pa_nil))) (pg_tup (n := 2) (by rfl) (pgs_cons (pg_name (i := 2) sc_is_around.nd rfl (Or.inl rfl)) (pgs_cons (pg_name (i := 3) sc_is_around.nd rfl (Or.inl rfl)) pgs_nil))))
    (pss_cons (ps_for PassesOwn.never rfl (G.pi_enumT rfl (fr_enumerate T) (pa_cons (pv 1) pa_nil)) (pg_tup (n := 2) (by rfl) (pgs_cons (pg_name (i := 4) sc_is_around.nd rfl (Or.inl rfl)) (pgs_cons (pg_name (i := 5) sc_is_around.nd rfl (Or.inl rfl)) pgs_nil))) (pss_cons (ps_asg (G.pe_callG (ok_weights T) (hr.mono (by first | decide | omega)) rfl (gl_weights T) (F_weights T).kp (bi_weights T) .nil pass0 (pa_cons (pv 0) (pa_cons (pv 5) (pa_cons (pe_ix ix_seq (pv 1) (pe_op G.op_modG (pe_op G.op_addG (pv 4) pe_int) (pe_callB G.call_lenG (by rfl) (fr_len T) PySem.boot_len (pa_cons (pv 1) pa_nil))) (fun _ _ => rfl)) pa_nil)))) (pg_tup (n := 3) (by rfl) (pgs_cons (pg_name (i := 6) sc_is_around.nd rfl (Or.inl rfl)) (pgs_cons (pg_name (i := 7) sc_is_around.nd rfl (Or.inl rfl)) (pgs_cons (pg_name (i := 8) sc_is_around.nd rfl (Or.inl rfl)) pgs_nil)))))
    (pss_cons (ps_if (PW.pt (pw_or (pt_cmpR G.op_ltG (pv 6) pe_int (nomark _)) (pw_or (pt_cmpR G.op_ltG (pv 7) pe_int (nomark _)) (pw_or1 (pt_cmpR (G.op_eqG hr.units) (pe_op G.op_addG (pv 6) (pv 7)) pe_int (nomark _)))))) (pss_one (ps_ret pe_bl)) pss_nil)
    (pss_one (ps_par (i := 2) (j := 3) (by rfl) sc_is_around.nd rfl rfl (by decide) rfl rfl (pa_cons (pe_op G.op_addG (pv 2) (pv 6)) (pa_cons (pe_op G.op_addG (pv 3) (pv 7)) pa_nil)) (by rfl))))))
    (pss_one (ps_ret (pe_cmpR (G.op_eqG hr.units) (pe_tup (pa_cons (pv 2) (pa_cons (pv 3) pa_nil))) (pe_tup (pa_cons (pe_fld (pe_fld (pv 0) rfl) rfl) (pa_cons (pe_fld (pe_fld (pv 0) rfl) rfl) pa_nil))) (nomark _)))))), ?_⟩
    walk_at "start"
    walk_at "gos"
    rename_i tp H1 n1 k1 e1
    refine ⟨p, inZ os, rfl, G.SqT.kp k1 hp, ?_⟩
    have nb := hx.nb
    obtain ⟨fL, fR, hw, hR⟩ := steps l1 nd nb
    have bL : ∀ i < os.length, G.Bd 440 (fL i) ∧ G.Bd 440 (fR i) := fun i hi => by
      obtain ⟨l, r, q, s, m, n, hp, ea, eb, ec, ed, m1, n1⟩ := hx
      have ba := hp.il.bn.mono m1
      have bb := hp.il.bd.mono m1
      have bc := hp.ir.bn.mono n1
      have bd' := hp.ir.bd.mono n1
      rw [ea] at ba
      rw [eb] at bb
      rw [ec] at bc
      rw [ed] at bd'
      have x1 := bd48 (at_bd l1 bd i)
      have x2 := bd48 (at_bd l1 bd (i + 1))
      rcases hw i hi with ⟨_, e1, e2⟩ | ⟨_, e1, e2⟩
      · rw [e1, e2]
        exact ⟨bb.mono (by decide), bd'.mono (by decide)⟩
      · have bw : G.Bd 218 (M92.wh a b c d (M92.At os i) (M92.At os (i + 1))) := ((x2.sub x1).mul (ba.add bc)).of_le (Int.natAbs_ediv_le_natAbs _ _)
        rw [e1, e2]
        exact ⟨(((x2.sub x1).mul ba).sub (bw.mul bb)).mono (by decide), (((x2.sub x1).mul bc).sub (bw.mul bd')).mono (by decide)⟩
    have bS : ∀ i ≤ os.length, G.Bd 460 (M92.sumTo fL i) ∧ G.Bd 460 (M92.sumTo fR i) := fun i hi => by
      have e1 := bd_sum (f := fL) (k := 440) (n := i) fun j hj => (bL j (by omega)).1
      have e2 := bd_sum (f := fR) (k := 440) (n := i) fun j hj => (bL j (by omega)).2
      have e3 : i * 2 ^ 440 < 2 ^ 460 := Nat.lt_of_le_of_lt (Nat.mul_le_mul_right _ (show i ≤ 30 by omega)) (by decide +kernel)
      exact ⟨Nat.lt_of_le_of_lt e1 e3, Nat.lt_of_le_of_lt e2 e3⟩
    refine G.for_enT (xs := inZ os) (fun i σ H' => G.Kp H H' ∧ (∀ j < i, 0 ≤ fL j ∧ 0 ≤ fR j ∧ fL j + fR j ≠ 0) ∧ i ≤ os.length ∧ ∃ v4 v5 v6 v7 v8, σ = [some (.ref x), some (.ref p), some (.int (M92.sumTo fL i)), some (.int (M92.sumTo fR i)), v4, v5, v6, v7, v8]) ⟨k1, fun _ h => absurd h (Nat.not_lt_zero _), Nat.zero_le _, _, _, _, _, _, rfl⟩ (fun i σ H' _ h => G.SqT.kp h.1 hp) ?_ ?_
    · rintro i v σ H2 T1 H3 hv ⟨k2, ok2, il, v4, v5, v6, v7, v8, rfl⟩ hT k3 e3
      obtain ⟨n, hn, rfl⟩ : ∃ n, os[i]? = some n ∧ V.int n = v := by simpa using hv
      have hi : i < os.length := (List.getElem?_eq_some_iff.mp hn).1
      have en : M92.At os i = n := by rw [M92.at_lt hi]; exact (List.getElem?_eq_some_iff.mp hn).2
      have K3 := k2.trans k3
      have hp3 := G.SqT.kp K3 hp
      have hx3 := hx.kp K3
      have hm : (i + 1) % os.length < os.length := Nat.mod_lt _ (by omega)
      have bn : G.Bd 8 n := en ▸ bd48 (at_bd l1 bd i)
      have b1 : G.Bd 8 (M92.At os (i + 1)) := bd48 (at_bd l1 bd (i + 1))
      obtain ⟨bf, bg⟩ := bL i hi
      obtain ⟨s1, s2⟩ := bS i il
      walk_at "gos"
      have ei : ((i : Int) + 1) % ((inZ os).length : Int) = (((i + 1) % os.length : Nat) : Int) := by rw [hl]; simp
      rw [ei]
      refine G.ix_t (v := .int (M92.At os (i + 1))) hp3 (by
        rw [atI_nat]
        rw [List.getElem?_map, List.getElem?_eq_getElem hm, M92.At, List.getD_eq_getElem?_getD, List.getElem?_eq_getElem hm]
        rfl) ?_
      walk_at "gos"
      refine weights_x (L := fL i) (R := fR i) hx3 bn b1 (by rw [← en]; exact hw i hi) fun w2 tq H4 n4 k4 e4 => ?_
      walk_at "gos"
      by_cases c1 : fL i < 0
      · refine ifdT c1 ?_
        walk_at "gos"
        exact k _ false (K3.trans k4) ⟨fun z => (nomatch z), fun z => by have := (hR.mp z).1 i hi; omega⟩
      refine ifdF c1 ?_
      walk_at "gos"
      by_cases c2 : fR i < 0
      · refine ifdT c2 ?_
        walk_at "gos"
        exact k _ false (K3.trans k4) ⟨fun z => (nomatch z), fun z => by have := (hR.mp z).1 i hi; omega⟩
      refine ifdF c2 ?_
      walk_at "gos"
      by_cases c3 : fL i + fR i = 0
      · refine ifdT c3 ?_
        walk_at "gos"
        exact k _ false (K3.trans k4) ⟨fun z => (nomatch z), fun z => (((hR.mp z).1 i hi).2.2 c3).elim⟩
      refine ifdF c3 ?_
      walk_at "gos"
      refine ⟨K3.trans k4, fun j hj => ?_, hi, _, _, _, _, _, rfl⟩
      rcases Nat.lt_or_ge j i with z | z
      · exact ok2 j z
      · have : j = i := by omega
        subst this
        exact ⟨by omega, by omega, c3⟩
    · rintro σ H2 ⟨k2, ok2, _, v4, v5, v6, v7, v8, rfl⟩
      rw [hl] at ok2 ⊢
      obtain ⟨l, r, q, s, m, n, hpc, ea, eb, ec, ed, m1, n1⟩ := hx.kp k2
      have il := hpc.il.r
      have ir := hpc.ir.r
      rw [ea, eb] at il
      rw [ec, ed] at ir
      walk_at "gos"
      rename_i ta HA nA kA eA tb HB nB kB eB
      refine eq_2i (kB _ _ eA) eB ?_
      refine k _ _ (k2.trans (kA.trans kB)) ?_
      rw [hR, decide_eq_true_iff]
      exact ⟨fun z => ⟨ok2, z.1, z.2⟩, fun z => ⟨z.2.1, z.2.2⟩⟩
end
end Lw

namespace Lw
open PySem PySem.Spec PyProof.Rows L2
section
variable {P : Program} [hP : G.SupP P "/claim/cut.py"] {w : World} {K : PySem.W.Frag} {mg : Str → Option Value} {base : Heap}
section
variable {H H' : Hp} {Q : VK} {x t : Addr} {a b c d : Int} {u : V} {xs : List V} {ty : String} {i : Int}
theorem asc_uniq : ∀ {xs ys : List Int}, xs.Pairwise (· < ·) → ys.Pairwise (· < ·) → (∀ k, k ∈ xs ↔ k ∈ ys) → xs = ys
  | [], [], _, _, _ => rfl
  | [], y :: r, _, _, h => absurd ((h y).mpr (List.mem_cons_self ..)) (List.not_mem_nil)
  | x :: r, [], _, _, h => absurd ((h x).mp (List.mem_cons_self ..)) (List.not_mem_nil)
  | x :: r, y :: t, hx, hy, h => by
    rw [List.pairwise_cons] at hx hy
    have e : x = y := by
      rcases List.mem_cons.mp ((h x).mp (List.mem_cons_self ..)) with e | m
      · exact e
      rcases List.mem_cons.mp ((h y).mpr (List.mem_cons_self ..)) with e | m2
      · exact e.symm
      have := hy.1 x m
      have := hx.1 y m2
      omega
    subst e
    congr 1
    refine asc_uniq hx.2 hy.2 fun k => ?_
    constructor
    · intro m
      rcases List.mem_cons.mp ((h k).mp (List.mem_cons_of_mem _ m)) with e | m2
      · have := hx.1 k m; omega
      · exact m2
    · intro m
      rcases List.mem_cons.mp ((h k).mpr (List.mem_cons_of_mem _ m)) with e | m2
      · have := hy.1 k m; omega
      · exact m2
theorem eqvAll_ints : ∀ ns ms : List Int, PyData.eqvAll (ns.map PyData.int) (ms.map PyData.int) = decide (ns = ms)
  | [], [] => by simp [PyData.eqvAll]
  | [], _ :: _ => by simp [PyData.eqvAll]
  | _ :: _, [] => by simp [PyData.eqvAll]
  | n :: r, m :: t => by
    have ih := eqvAll_ints r t
    by_cases e : n = m <;> simp [PyData.eqvAll, PyData.eqv, ih, e]
theorem dpZ : ∀ ns : List Int, DpAll K H (inZ ns) (ns.map PyData.int)
  | [] => .nil
  | n :: r => .cons (.int n) (dpZ r)
theorem layZ (ns : List Int) : PyData.canLayAll0 (ns.map PyData.int) = true ∧ PyData.depthAll (ns.map PyData.int) = 0 := by
  induction ns with
  | nil => exact ⟨rfl, rfl⟩
  | cons n r ih => exact ⟨by simp [PyData.canLayAll0, PyData.canLay0, ih.1], by simp [PyData.depthAll, PyData.depth, ih.2]⟩
theorem shpL (ns : List Int) : SeqAt.shaped (.list (ns.map PyData.int)) = true := by
  have h := layZ ns
  simp [SeqAt.shaped, PyData.canLay0, PyData.depth, h.1, h.2]
theorem eqvL_ints (ns ms : List Int) : PyData.eqv (.list (ns.map PyData.int)) (.list (ms.map PyData.int)) = decide (ns = ms) := by
  rw [← eqvAll_ints]
  simp [PyData.eqv]
theorem ne_lists {p q : Addr} {ns ms : List Int} (h1 : H p = some (.lst (inZ ns))) (h2 : H q = some (.lst (inZ ms))) (z : Q (.bl (!decide (ns = ms))) H) : G.rNeG K (.ref p) (.ref q) H Q :=
  G.ne_dd (.lst (.of h1) (dpZ ns)) (.lst (.of h2) (dpZ ms)) (shpL ns) (shpL ms) (by rw [eqvL_ints]; exact z)
theorem ifnT' {p : Prop} [Decidable p] {A B : Prop} (h : p) (q : B) : if (!decide p) = true then A else B := by rw [decide_eq_true h]; exact q
theorem ifnF' {p : Prop} [Decidable p] {A B : Prop} (h : ¬ p) (q : A) : if (!decide p) = true then A else B := by rw [decide_eq_false h]; exact q
theorem asc_nodup {ks : List Int} (h : ks.Pairwise (· < ·)) : ks.Nodup := h.imp fun h e => by omega
/-- put in order, it is the list of the numbers wanted -/
theorem sort_eq {os js ws : List Int} (pm : js.Perm os) (le : js.Pairwise (· ≤ ·)) (asc : ws.Pairwise (· < ·)) (p2 : os.Perm ws) : js = ws := by
  have nd : js.Nodup := (pm.trans p2).nodup_iff.mpr (asc_nodup asc)
  exact asc_uniq ((List.Pairwise.and le nd).imp fun ⟨h1, h2⟩ => by omega) asc fun k => (pm.trans p2).mem_iff
theorem isi_K (T : Tx K mg) (h : IsK K H x a b c d) (q : Q (.bl true) H) : G.rIsiG K [.ref x, .ref (He.ga K "Piece")] H Q := by
  obtain ⟨l, r, q', s, m, n, ip, _⟩ := h
  obtain ⟨dx, e⟩ := ip.at_
  exact G.isi_cl (.base (.ins e (cl_Piece T) (is_Piece T).ha (is_Piece T).hn (is_Piece T).ht (is_Piece T).hm)) (ki_Piece_Piece T) q
theorem isi_tp (h : H t = some (.tup xs)) (q : Q (.bl true) H) : G.rIsiG K [.ref t, .ty "tuple"] H Q := G.isi_ty (.base (.tup h)) (L2.kit_ty (by decide +kernel)) q
theorem isi_ntp (h : (∃ ty, OddV H u ty ∧ ty ≠ "tuple") ∨ ∃ i, u = .int i) (q : Q (.bl false) H) : G.rIsiG K [u, .ty "tuple"] H Q := by
  rcases h with ⟨ty, o, n⟩ | ⟨i, rfl⟩
  · refine G.isi_ty o.tx ?_ q
    cases o <;> first | exact absurd rfl n | exact L2.kit_ty (by decide +kernel)
  · exact G.isi_ty (.base (.int _)) (L2.kit_ty (by decide +kernel)) q
theorem in48_all {ns : List Int} (h : In48 ns) : (ns.all fun n => decide (-48 ≤ n ∧ n ≤ 48)) = true := by
  rw [List.all_eq_true]
  intro n hn
  exact decide_eq_true (h.2 n hn)
theorem shows_in {ns os : List Int} (n48 : In48 ns) (h : Shows a b c d ns os) : (os.all fun n => decide (-48 ≤ n ∧ n ≤ 48)) = true := by
  obtain ⟨_, ⟨ws, _, mem, pm⟩, _⟩ := h
  rw [List.all_eq_true]
  intro n hn
  rcases (mem n).mp (pm.mem_iff.mp hn) with rfl | m
  · decide
  · exact decide_eq_true (n48.2 n m)
theorem shows_0 {ns os : List Int} (h : Shows a b c d ns os) : (0 : Int) ∈ os := List.mem_of_mem_head? (by rw [h.1]; rfl)
end
theorem ok_shows_ring (T : Tx K mg) : G.FnG P w K mg base CX0 4 (a_shows_ring K) (G.fdOf K (a_shows_ring K)) ["piece", "numbers", "order"] (sp_shows K) := by
  refine G.ok_of (F_shows_ring T) sc_shows_ring (fun vs H Q E h => ?_) (fun cdv A outer s H vs Q E hr h => ?_)
  · obtain ⟨x, a, b, c, d, v, u, rfl, _⟩ := h
    rfl
  · obtain ⟨x, a, b, c, d, v, u, rfl, hx, h⟩ := h
    refine ⟨_, (pss_cons (ps_if (pt_not (pt_val (pe_callB G.call_isiG (by rfl) (fr_isinstance T) boot_isinstance (pa_cons (pv 0) (pa_cons (G.pe_cl rfl (gl_Piece T)) pa_nil))))) (pss_one ps_never) pss_nil)
    (pss_cons (ps_if (PW.pt (pw_or (pt_not (pt_val (G.pe_callG (ok_are_numbers T) (hr.mono (by first | decide | omega)) rfl (gl_are_numbers T) (F_are_numbers T).kp (bi_are_numbers T) .nil pass0 (pa_cons (pv 1) pa_nil)))) (pw_or (pt_not (pt_val (pe_callB G.call_isiG (by rfl) (fr_isinstance T) boot_isinstance (pa_cons (pv 2) (pa_cons (G.pe_ty (by rfl) (fr_tuple T) boot_tuple) pa_nil))))) (pw_or (pt_not (pt_val (G.pe_callG (ok_are_numbers T) (hr.mono (by first | decide | omega)) rfl (gl_are_numbers T) (F_are_numbers T).kp (bi_are_numbers T) .nil pass0 (pa_cons (pv 2) pa_nil)))) (pw_or1 (pt_cmpR op_notIn_seq pe_int (pv 2) (by rfl))))))) (pss_one (ps_ret pe_bl)) pss_nil)
    (pss_cons (ps_set (i := 3) sc_shows_ring.nd rfl (Or.inl rfl) (pe_callB (G.callOr cr_sortedI (G.cr_sortedSet rfl)) (by rfl) (fr_sorted T) boot_sorted (pa_cons (pe_callTy (G.cr_setL rfl) (by rfl) (fr_set T) boot_set (pa_cons (pe_op G.op_addG (pe_lst (pa_cons pe_int pa_nil)) (pe_lc (own := [("number", 4)]) (by rfl) sc_shows_ring.nd (G.pi_varX (pv 1)) (blkOk_by (N := ["piece", "numbers", "order", "wanted", "number"]) (sc := defScope s_shows_ring) (by decide +kernel)) (fun _ _ _ _ _ => (pg_name (i := 4) sc_shows_ring.nd rfl (Or.inl rfl))) (fun _ _ _ _ _ => pts_nil) (fun _ _ _ _ _ => (pe_callTy G.call_intG (by rfl) (fr_int T) boot_int (pa_cons (pv 4) pa_nil))))) pa_nil)) pa_nil)))
    (pss_cons (ps_if (PW.pt (pw_or (pt_cmpR (G.op_neG hr.units) (pe_ix ix_seq (pv 2) pe_int (fun _ _ => rfl)) pe_int (nomark _)) (pw_or1 (pt_cmpR (G.op_neG hr.units) (pe_callB (G.callOr cr_sortedI (G.cr_sortedSet rfl)) (by rfl) (fr_sorted T) boot_sorted (pa_cons (pe_lc (own := [("number", 4)]) (by rfl) sc_shows_ring.nd (G.pi_varX (pv 2)) (blkOk_by (N := ["piece", "numbers", "order", "wanted", "number"]) (sc := defScope s_shows_ring) (by decide +kernel)) (fun _ _ _ _ _ => (pg_name (i := 4) sc_shows_ring.nd rfl (Or.inl rfl))) (fun _ _ _ _ _ => pts_nil) (fun _ _ _ _ _ => (pe_callTy G.call_intG (by rfl) (fr_int T) boot_int (pa_cons (pv 4) pa_nil)))) pa_nil)) (pv 3) (nomark _))))) (pss_one (ps_ret pe_bl)) pss_nil)
    (pss_one (ps_ret (G.pe_callG (ok_is_around T) (hr.mono (by first | decide | omega)) rfl (gl_is_around T) (F_is_around T).kp (bi_is_around T) .nil pass0 (pa_cons (pv 0) (pa_cons (pv 2) pa_nil))))))))), ?_⟩
    walk_at "start"
    rcases h with ⟨nn, k⟩ | ⟨r, ns, rfl, hv, n48, h⟩
    · walk_at "gos"
      refine isi_K T hx ?_
      walk_at "gos"
      refine numbers_no (K := K) (E := E0) nn fun H1 k1 => ?_
      walk_at "gos"
      exact k _ k1
    · have few := n48.1
      walk_at "gos"
      refine isi_K T hx ?_
      walk_at "gos"
      refine numbers_z (K := K) (E := E0) hv (by omega) fun H1 k1 => ?_
      rw [in48_all n48]
      walk_at "gos"
      rcases h with ⟨⟨no⟩ | ⟨t, xs, bs, rfl, ht, sq, ba⟩, k⟩ | ⟨t, os, rfl, ht, lo, ob, k⟩
      · refine isi_ntp (no.imp (fun ⟨ty, o, n⟩ => ⟨ty, o.kp k1, n⟩) id) ?_
        walk_at "gos"
        exact k _ k1
      · refine isi_tp (k1 _ _ ht) ?_
        walk_at "gos"
        refine numbers_no (K := K) (E := E0) (.inr ⟨t, xs, bs, rfl, sq.kp k1, ba⟩) fun H2 k2 => ?_
        walk_at "gos"
        exact k _ (k1.trans k2)
      · refine isi_tp (k1 _ _ ht) ?_
        walk_at "gos"
        refine numbers_z (K := K) (E := E0) (.inr (k1 _ _ ht)) (by omega) fun H2 k2 => ?_
        have K2 := k1.trans k2
        by_cases ha : (os.all fun n => decide (-48 ≤ n ∧ n ≤ 48)) = true
        · rw [ha]
          walk_at "gos"
          by_cases h0 : (0 : Int) ∈ os
          · rw [decide_eq_true h0]
            refine ifNT' ?_
            have hv2 := hv.kp K2
            have ht2 := K2 _ _ ht
            walk_at "gos"
            rename_i z H3 n3 k3 e3
            refine G.st_varX rfl (hv2.kp k3) fun J hJ => ?_
            refine G.lc_map1 (σ0 := ?z0) (xs := inZ ns) (ys := inZ ns) hJ ?e ?e2 rfl (by simp; omega) ?hs ?hd
            case e => (simp only [List.map_cons, List.map_nil, L2.wipe, List.set_cons_zero, List.set_cons_succ]; rfl)
            case e2 => exact fun x => rfl
            case hs =>
              intro i v y H' R hv hy k1 hR
              obtain ⟨n, hn, rfl⟩ : ∃ n, ns[i]? = some n ∧ V.int n = v := by simpa using hv
              rw [hv] at hy
              cases hy
              walk_at "gos"
              exact hR _ G.Kp.refl
            case hd =>
              intro D H4 nD eD k4
              walk_at "gos"
              refine G.add_ll (k4 _ _ e3) eD (by simp; omega) fun p5 H5 n5 k5 e5 => ?_
              rw [show [V.int 0] ++ inZ ns = inZ (0 :: ns) from rfl] at e5
              walk_at "gos"
              refine G.set_l (SqL.of e5) (by simp; omega) fun sa c2 H6 n6 k6 lc e6 => ?_
              walk_at "gos"
              refine .inr (G.sorted_s e6 (by simp at lc; omega) fun sl ws H7 n7 k7 asc mem e7 => ?_)
              have mem' : ∀ k, k ∈ ws ↔ k = 0 ∨ k ∈ ns := fun k => by rw [mem, decide_eq_true_iff, List.mem_cons]
              have K7 := k3.trans (k4.trans (k5.trans (k6.trans k7)))
              have ht7 := K7 _ _ ht2
              have hx7 := hx.kp (K2.trans K7)
              obtain ⟨o, ro, rfl⟩ : ∃ o ro, os = o :: ro := by
                cases os with
                | nil => simp at h0
                | cons o ro => exact ⟨o, ro, rfl⟩
              have KH := K2.trans K7
              clear e5 lc e6 mem eD k4 k5 k6 k7 n5 n6 n7 e3 n3 nD hJ hv2 ht2 K7
              walk_at "gos"
              refine G.ix_t (v := .int o) (SqT.of ht7) (by simp [atI, ixN]) ?_
              walk_at "gos"
              by_cases o0 : o = 0
              · refine ifnT' o0 ?_
                walk_at "gos"
                refine G.st_varX rfl (.inr ht7) fun J2 hJ2 => ?_
                refine G.lc_map1 (σ0 := [some (.ref x), some (.ref r), some (.ref t), some (.ref sl), none]) (xs := inZ (o :: ro)) (ys := inZ (o :: ro)) hJ2 ?e ?e2 rfl (by simp at lo ⊢; omega) ?hs ?hd
                case e => rfl
                case e2 => exact fun x => rfl
                case hs =>
                  intro i v y H' R hv hy k1 hR
                  obtain ⟨n, hn, rfl⟩ : ∃ n, (o :: ro)[i]? = some n ∧ V.int n = v := by
                    rw [List.getElem?_map] at hv
                    cases h : (o :: ro)[i]? with
                    | none => rw [h] at hv; cases hv
                    | some n => rw [h] at hv; exact ⟨n, rfl, Option.some.inj hv⟩
                  rw [hv] at hy
                  cases hy
                  walk_at "gos"
                  exact hR _ G.Kp.refl
                case hd =>
                  intro D2 H8 n8 e8 k8
                  walk_at "gos"
                  refine .inl (G.sorted_i (SqL.of e8) fun sl2 js H9 n9 k9 pm le e9 => ?_)
                  walk_at "gos"
                  refine ne_lists e9 ((k8.trans k9) _ _ e7) ?_
                  by_cases ej : js = ws
                  · refine ⟨_, rfl, ifnT' ej ?_⟩
                    walk_at "gos"
                    have pw : (o :: ro).Perm ws := ej ▸ pm.symm
                    have K9 := k8.trans k9
                    refine around_x (hx7.kp K9) (SqT.of (K9 _ _ ht7)) (by omega) (by simp) (fun n hn => of_decide_eq_true (List.all_eq_true.mp ha n hn)) (pw.nodup_iff.mpr (asc_nodup asc)) fun H10 τ k10 hτ => ?_
                    exact k _ τ (KH.trans (K9.trans k10)) (hτ.trans ⟨fun z => ⟨by rw [o0]; rfl, ⟨ws, asc, mem', pw⟩, z⟩, fun z => z.2.2⟩)
                  · refine ⟨_, rfl, ifnF' ej ?_⟩
                    walk_at "gos"
                    refine k _ false (KH.trans (k8.trans k9)) ⟨fun z => (nomatch z), fun z => (ej ?_).elim⟩
                    obtain ⟨_, ⟨ws', asc', m', p'⟩, _⟩ := z
                    have : ws' = ws := asc_uniq asc' asc fun k => (m' k).trans (mem' k).symm
                    subst this
                    exact sort_eq pm le asc p'
              · refine ifnF' o0 ?_
                walk_at "gos"
                exact k _ false KH ⟨fun z => (nomatch z), fun z => (o0 (Option.some.inj z.1)).elim⟩
          · rw [decide_eq_false h0]
            refine ifNF' ?_
            walk_at "gos"
            exact k _ false K2 ⟨fun z => (nomatch z), fun z => (h0 (shows_0 z)).elim⟩
        · rw [Bool.not_eq_true] at ha
          rw [ha]
          walk_at "gos"
          exact k _ false K2 ⟨fun z => (nomatch z), fun z => by rw [shows_in n48 z] at ha; cases ha⟩
end
end Lw

namespace Lw
open PySem PySem.Spec PyProof.Rows L2
section
variable {P : Program} [hP : G.SupP P "/claim/cut.py"] {w : World} {K : PySem.W.Frag} {mg : Str → Option Value} {base : Heap}
def hiN (ws : List Int) (x m : Int) : List Int := ws.filter fun y => decide (x < y ∧ (y - x) % m = 0)
theorem hiN_snoc (ws : List Int) (x m y : Int) : hiN (ws ++ [y]) x m = hiN ws x m ++ (if x < y ∧ (y - x) % m = 0 then [y] else []) := by
  unfold hiN
  rw [List.filter_append]
  congr 1
  by_cases e : x < y ∧ (y - x) % m = 0 <;> simp [e]
theorem ok_law_pair_at (T : Tx K mg) : G.FnG P w K mg base CX0 2 (a_law_pair_at K) (G.fdOf K (a_law_pair_at K)) ["_law_some", "_law_bottom"] sp_pair := by
  refine G.ok_of (F_law_pair_at T) sc_law_pair_at (fun vs H Q E h => ?_) (fun cdv A outer s H vs Q E hr h => ?_)
  · obtain ⟨r, ws, m, rfl, _⟩ := h
    rfl
  · obtain ⟨r, ws, m, rfl, hr0, l, wb, m1, m9, q1, q2⟩ := h
    refine ⟨_, (pss_cons (ps_for PassesOwn.never rfl (pi_list (pv 0)) (pg_name (i := 2) sc_law_pair_at.nd rfl (Or.inr rfl)) (pss_cons (ps_setLc (i := 3) (own := [("_law_high", 4)]) (by rfl) sc_law_pair_at.nd rfl rfl (sw_true rfl rfl rfl (by decide +kernel)) (pi_list (pv 0)) (blkOk_by (N := ["_law_some", "_law_bottom", "_law_low", "_law_highs", "_law_high"]) (sc := defScope s_law_pair_at) (by decide +kernel)) (fun _ _ _ _ _ => (pg_name (i := 4) sc_law_pair_at.nd rfl (Or.inl rfl))) (fun _ _ _ _ _ => (pts_one (PW.pt (pw_and (pt_cmpR G.op_ltG (pv 2) (pv 4) (nomark _)) (pw_and1 (pt_cmpR (G.op_eqK (K := K) rfl hr.units) (pe_op G.op_modG (pe_callTy G.call_intG (by rfl) (fr_int T) boot_int (pa_cons (pe_op G.op_subG (pv 4) (pv 2)) pa_nil)) (pv 1)) pe_int (nomark _))))))) (fun _ _ _ _ _ => (pv 4)))
    (pss_one (ps_if (pt_cmpR (G.op_neG hr.units) (pv 3) (pe_lst pa_nil) (nomark _)) (pss_one (ps_ret (pe_tup (pa_cons (pv 2) (pa_cons (pe_ix ix_seq (pv 3) pe_int (fun _ _ => rfl)) pa_nil))))) pss_nil))))
    (pss_one (ps_ret pe_non))), ?_⟩
    walk_at "start"
    walk_at "gos"
    refine G.for_lst (xs := inZ ws) (fun i σ H' => G.Kp H H' ∧ (∀ j < i, ∀ x, ws[j]? = some x → ∀ y ∈ ws, ¬ (x < y ∧ (y - x) % m = 0)) ∧ ∃ v2 v3 v4, σ = [some (.ref r), some (.int m), v2, v3, v4]) ⟨G.Kp.refl, fun _ h => absurd h (Nat.not_lt_zero _), _, _, _, rfl⟩ (fun i σ H' _ h => SqL.of (h.1 _ _ hr0)) ?_ ?_
    · rintro i v σ H1 hv ⟨k1, no, v2, v3, v4, rfl⟩
      obtain ⟨x, hx, rfl⟩ : ∃ n, ws[i]? = some n ∧ V.int n = v := by simpa using hv
      have r1 := k1 _ _ hr0
      have bx := wb x (List.mem_of_getElem? hx)
      walk_at "gos"
      refine G.lc_lstG (σ0 := [some (.ref r), some (.int m), some (.int x), v3, none]) (xs := inZ ws) (fun D j H' => H' D = some (.lst (inZ (hiN (ws.take j) x m))) ∧ G.Kp H1 H' ∧ H1 D = none) rfl (fun D H2 nD k2 e2 => ⟨by simpa [hiN] using e2, k2, nD⟩) (fun D j H' _ h => SqL.of (h.2.1 _ _ r1)) ?_ ?_
      · rintro D j v H2 hv2 ⟨eD, k2, nD⟩
        obtain ⟨y, hy, rfl⟩ : ∃ n, ws[j]? = some n ∧ V.int n = v := by simpa using hv2
        have by' := wb y (List.mem_of_getElem? hy)
        have tk : ws.take (j + 1) = ws.take j ++ [y] := by rw [List.take_add_one, hy]; rfl
        have lh : (hiN (ws.take j) x m).length ≤ 25 := by
          have := List.length_filter_le (fun y => decide (x < y ∧ (y - x) % m = 0)) (ws.take j)
          have : (ws.take j).length ≤ ws.length := by rw [List.length_take]; omega
          unfold hiN
          omega
        rw [tk, hiN_snoc]
        have no : ¬ (x < y ∧ (y - x) % m = 0) → H2 D = some (.lst (inZ (hiN (ws.take j) x m ++ (if x < y ∧ (y - x) % m = 0 then [y] else [])))) ∧ G.Kp H1 H2 ∧ H1 D = none := fun e => by rw [if_neg e, List.append_nil]; exact ⟨eD, k2, nD⟩
        walk_at "gos"
        by_cases c1 : x < y
        · refine ifdT c1 ?_
          walk_at "gos"
          by_cases c2 : (y - x) % m = 0
          · refine G.st_lcB (fun _ => ?_) fun z => by simp [c2] at z
            walk_at "gos"
            refine G.st_app eD (by rw [List.length_map, sizeLine_eq]; omega) fun H3 m3 e3 => ?_
            rw [if_pos ⟨c1, c2⟩]
            exact ⟨by rw [inZ, List.map_append]; exact e3, k2.md_new m3 nD, nD⟩
          · refine G.st_lcB (fun z => by simp [c2] at z) fun _ => no fun z => c2 z.2
        · refine ifdF c1 ?_
          walk_at "gos"
          exact no fun z => c1 z.1
      · rintro D H2 ⟨eD, k2, nD⟩
        rw [List.length_map, List.take_length] at eD
        have lh : (hiN ws x m).length ≤ 25 := by
          have := List.length_filter_le (fun y => decide (x < y ∧ (y - x) % m = 0)) ws
          unfold hiN
          omega
        walk_at "gos"
        rename_i e0 H3 n3 k3 e3
        refine ne_lists (ms := []) (k3 _ _ eD) e3 ?_
        by_cases c0 : hiN ws x m = []
        · refine ⟨_, rfl, ifnT' c0 ?_⟩
          walk_at "gos"
          refine ⟨k1.trans (k2.trans k3), fun j hj x' hx' y hy z => ?_, _, _, _, rfl⟩
          rcases Nat.lt_or_ge j i with g | g
          · exact no j g x' hx' y hy z
          · have : j = i := by omega
            subst this
            rw [hx] at hx'
            cases hx'
            have : y ∈ hiN ws x m := List.mem_filter.mpr ⟨hy, decide_eq_true z⟩
            rw [c0] at this
            cases this
        · refine ⟨_, rfl, ifnF' c0 ?_⟩
          obtain ⟨h0, hs, eh⟩ := List.exists_cons_of_ne_nil c0
          have eD3 := k3 _ _ eD
          rw [eh] at eD3
          walk_at "gos"
          refine G.ix_l (v := .int h0) (SqL.of eD3) (by simp [atI, ixN]) ?_
          walk_at "gos"
          rename_i tp H4 n4 k4 e4
          have mh : h0 ∈ hiN ws x m := by rw [eh]; exact List.mem_cons_self ..
          obtain ⟨g1, g2⟩ := List.mem_filter.mp mh
          exact q1 _ _ (k1.trans (k2.trans (k3.trans k4))) ⟨x, List.mem_of_getElem? hx, h0, g1, of_decide_eq_true g2⟩
    · rintro σ H1 ⟨k1, no, v2, v3, v4, rfl⟩
      walk_at "gos"
      refine q2 _ k1 ?_
      rintro ⟨x, hx, y, hy, h⟩
      obtain ⟨j, hj, ej⟩ := List.mem_iff_getElem.mp hx
      exact no j (by rw [List.length_map]; exact hj) x (by rw [List.getElem?_eq_getElem hj, ej]) y hy h
theorem ok_law_meeting (T : Tx K mg) : G.FnG P w K mg base CX0 3 (a_law_meeting K) (G.fdOf K (a_law_meeting K)) ["_law_ends", "_law_some"] sp_meet := by
  refine G.ok_of (F_law_meeting T) sc_law_meeting (fun vs H Q E h => ?_) (fun cdv A outer s H vs Q E hr h => ?_)
  · obtain ⟨e, r, ws, a, b, c, d, rfl, _⟩ := h
    rfl
  · obtain ⟨e, r, ws, a, b, c, d, rfl, he, hr0, l, wb, b0, ba, bb, bc, bd, q1, q2⟩ := h
    refine ⟨_, (pss_cons (ps_asg (pv 0) (pg_tup (n := 4) (by rfl) (pgs_cons (pg_name (i := 2) sc_law_meeting.nd rfl (Or.inl rfl)) (pgs_cons (pg_name (i := 3) sc_law_meeting.nd rfl (Or.inl rfl)) (pgs_cons (pg_name (i := 4) sc_law_meeting.nd rfl (Or.inl rfl)) (pgs_cons (pg_name (i := 5) sc_law_meeting.nd rfl (Or.inl rfl)) pgs_nil))))))
    (pss_cons (ps_for PassesOwn.never rfl (pi_range2 rfl (fr_range T) (pa_cons pe_int (pa_cons pe_int pa_nil))) (pg_name (i := 6) sc_law_meeting.nd rfl (Or.inl rfl)) (pss_cons (ps_set (i := 7) sc_law_meeting.nd rfl (Or.inl rfl) (pe_op G.op_addG (pe_op G.op_divG (pe_op G.op_mulG (pv 2) (pv 6)) (pv 3)) pe_int))
    (pss_cons (ps_set (i := 8) sc_law_meeting.nd rfl (Or.inl rfl) (pe_ifExp (pt_cmpR G.op_ltG (pe_op G.op_mulG (pv 7) (pv 5)) (pe_op G.op_mulG (pv 4) (pv 6)) (nomark _)) (G.pe_callG (ok_law_pair_at T) (hr.mono (by first | decide | omega)) rfl (gl_law_pair_at T) (F_law_pair_at T).kp (bi_law_pair_at T) .nil pass0 (pa_cons (pv 1) (pa_cons (pv 6) pa_nil))) pe_non))
    (pss_one (ps_if (pt_cmpR G.op_notNG (pv 8) pe_non (nomark _)) (pss_one (ps_ret (pe_tup (pa_cons (pv 7) (pa_cons (pv 6) (pa_cons (pv 8) pa_nil)))))) pss_nil)))))
    (pss_one (ps_ret pe_non)))), ?_⟩
    walk_at "start"
    walk_at "gos"
    refine G.for_rng (fun i σ H' => G.Kp H H' ∧ (∀ m : Int, 1 ≤ m → m < 1 + (i : Int) → ¬ ((a * m / b + 1) * d < c * m ∧ PairB ws m)) ∧ ∃ v6 v7 v8, σ = [some (.ref e), some (.ref r), some (.int a), some (.int b), some (.int c), some (.int d), v6, v7, v8]) ⟨by first | exact G.Kp.refl | assumption, fun m h1 h2 => by omega, _, _, _, rfl⟩ ?_ ?_
    · rintro i σ H1 hi ⟨k1, no, v6, v7, v8, rfl⟩
      have hi2 : i < 96 := hi
      have r1 := k1 _ _ hr0
      have bm : G.Bd 8 (1 + (i : Int)) := (G.Bd.of_le (G.Bd.lit 97) (by omega)).mono (by decide)
      have bq : G.Bd 120 (a * (1 + (i : Int)) / b) := ((ba.mul bm).of_le (Int.natAbs_ediv_le_natAbs _ _)).mono (by decide)
      walk_at "gos"
      have nxt : ¬ ((a * (1 + (i : Int)) / b + 1) * d < c * (1 + (i : Int)) ∧ PairB ws (1 + (i : Int))) → ∀ m : Int, 1 ≤ m → m < 1 + ((i + 1 : Nat) : Int) → ¬ ((a * m / b + 1) * d < c * m ∧ PairB ws m) := fun z m h1 h2 => by
        rcases Int.lt_or_le m (1 + (i : Int)) with g | g
        · exact no m h1 g
        · have : m = 1 + (i : Int) := by omega
          rw [this]
          exact z
      by_cases c1 : (a * (1 + (i : Int)) / b + 1) * d < c * (1 + (i : Int))
      · refine ifdT c1 ?_
        walk_at "gos"
        refine pair_x r1 l wb (by omega) (by omega) (fun z H2 k2 pb => ?_) fun H2 k2 np => ?_
        · walk_at "gos"
          refine ifnF' (by simp) ?_
          walk_at "gos"
          rename_i tp H3 n3 k3 e3
          exact q1 _ _ (k1.trans (k2.trans k3)) ⟨1 + (i : Int), by omega, by omega, c1, pb⟩
        · walk_at "gos"
          refine ifnT' rfl ?_
          walk_at "gos"
          exact ⟨k1.trans k2, nxt fun z => np z.2, _, _, _, rfl⟩
      · refine ifdF c1 ?_
        walk_at "gos"
        refine ifnT' rfl ?_
        walk_at "gos"
        exact ⟨k1, nxt fun z => c1 z.1, _, _, _, rfl⟩
    · rintro σ H1 ⟨k1, no, v6, v7, v8, rfl⟩
      walk_at "gos"
      refine q2 _ k1 ?_
      rintro ⟨m, m1, m9, h, p⟩
      exact no m m1 (by rw [show (97 - 1 : Int).toNat = 96 from rfl]; omega) ⟨h, p⟩
end
end Lw

namespace Lw
open PySem PySem.Spec PyProof.Rows L2
section
variable {P : Program} [hP : G.SupP P "/claim/cut.py"] {w : World} {K : PySem.W.Frag} {mg : Str → Option Value} {base : Heap}
theorem ok_law_spot (T : Tx K mg) : G.FnG P w K mg base CX0 1 (a_law_spot K) (G.fdOf K (a_law_spot K)) ["_law_ends", "_law_u", "_law_v"] sp_spot := by
  refine G.ok_of (F_law_spot T) sc_law_spot (fun vs H Q E h => ?_) (fun cdv A outer s H vs Q E hr h => ?_)
  · obtain ⟨e, a, b, c, d, rfl, _⟩ := h
    rfl
  · obtain ⟨e, a, b, c, d, rfl, he, ba, bb, bc, bd, k⟩ := h
    refine ⟨_, (pss_one (ps_ret (pe_tup (pa_cons (pe_op G.op_addG (pe_op G.op_mulG (pv 1) (pe_ix ix_seq (pv 0) pe_int (fun _ _ => rfl))) (pe_op G.op_mulG (pv 2) (pe_ix ix_seq (pv 0) pe_int (fun _ _ => rfl)))) (pa_cons (pe_op G.op_addG (pe_op G.op_mulG (pv 1) (pe_ix ix_seq (pv 0) pe_int (fun _ _ => rfl))) (pe_op G.op_mulG (pv 2) (pe_ix ix_seq (pv 0) pe_int (fun _ _ => rfl)))) pa_nil))))), ?_⟩
    walk_at "start"
    walk_at "gos"
    rename_i z H1 n1 k1 e1
    rw [Int.one_mul, Int.one_mul, Int.one_mul, Int.one_mul] at e1
    exact k z H1 k1 e1
section
variable {kvs : List (Key × V)}
theorem keys_put (k : Key) (v : V) : (putK kvs k v).map (·.1) = if (valV kvs k).isSome = true then kvs.map (·.1) else kvs.map (·.1) ++ [k] := by
  unfold putK
  rw [valV_any]
  split
  · rw [List.map_map]
    refine List.map_congr_left fun kv _ => ?_
    show (if kv.1 = k then (kv.1, v) else kv).1 = kv.1
    split <;> rfl
  · rw [List.map_append]
    rfl
theorem val_keys (k : Key) : (valV kvs k).isSome = true ↔ k ∈ kvs.map (·.1) := by
  rw [← valV_any, List.any_eq_true, List.mem_map]
  constructor
  · rintro ⟨kv, h, e⟩
    exact ⟨kv, h, of_decide_eq_true e⟩
  · rintro ⟨kv, h, e⟩
    exact ⟨kv, h, decide_eq_true e⟩
structure OrdI (f : Int → Int) (kvs : List (Key × V)) (ms ks : List Int) : Prop where
  keys : kvs.map (·.1) = ks.map Sum.inl
  nd : ks.Nodup
  mem : ∀ k, k ∈ ks ↔ k ∈ ms.map f
  val : ∀ k ∈ ks, ∃ n ∈ ms, f n = k ∧ valV kvs (.inl k) = some (.int n)
theorem OrdI.in_ {f : Int → Int} {ms ks : List Int} (h : OrdI f kvs ms ks) (k : Int) : (valV kvs (.inl k)).isSome = true ↔ k ∈ ks := by
  rw [val_keys, h.keys]
  constructor
  · intro m
    obtain ⟨j, hj, e⟩ := List.mem_map.mp m
    injection e with e
    exact e ▸ hj
  · exact fun m => List.mem_map.mpr ⟨k, m, rfl⟩
theorem OrdI.step {f : Int → Int} {ms ks : List Int} (h : OrdI f kvs ms ks) (n : Int) : ∃ ks', OrdI f (putK kvs (.inl (f n)) (.int n)) (ms ++ [n]) ks' := by
  have val2 : ∀ ks' : List Int, (∀ j ∈ ks', j = f n ∨ j ∈ ks) → ∀ j ∈ ks', ∃ m ∈ ms ++ [n], f m = j ∧ valV (putK kvs (.inl (f n)) (.int n)) (.inl j) = some (.int m) := fun ks' hs j hj => by
    rw [valV_put]
    by_cases e : j = f n
    · exact ⟨n, by simp, e.symm, by rw [e, if_pos rfl]⟩
    · rw [if_neg (fun z => e (by injection z))]
      obtain ⟨m, hm, e1, e2⟩ := h.val j ((hs j hj).resolve_left e)
      exact ⟨m, List.mem_append_left _ hm, e1, e2⟩
  have mem2 : ∀ j, j ∈ (ms ++ [n]).map f ↔ j ∈ ms.map f ∨ j = f n := fun j => by rw [List.map_append, List.mem_append]; simp
  by_cases hk : f n ∈ ks
  · refine ⟨ks, ?_, h.nd, fun j => ?_, val2 ks fun j hj => .inr hj⟩
    · rw [keys_put, if_pos ((h.in_ _).mpr hk), h.keys]
    · rw [mem2, ← h.mem]
      exact ⟨.inl, fun z => z.elim id fun e => e ▸ hk⟩
  · refine ⟨ks ++ [f n], ?_, ?_, fun j => ?_, val2 _ fun j hj => ?_⟩
    · rw [keys_put, if_neg (fun z => hk ((h.in_ _).mp z)), h.keys, List.map_append]
      rfl
    · exact List.nodup_append.mpr ⟨h.nd, by simp, fun x hx y hy e => hk (by
        simp only [List.mem_singleton] at hy
        rw [← hy, ← e]
        exact hx)⟩
    · rw [mem2, ← h.mem, List.mem_append, List.mem_singleton]
    · rcases List.mem_append.mp hj with z | z
      · exact .inr z
      · exact .inl (List.mem_singleton.mp z)
/-- the values by ascending keys -/
theorem OrdI.vals {f : Int → Int} {ms ks : List Int} (h : OrdI f kvs ms ks) : ∀ js : List Int, (∀ j ∈ js, j ∈ ks) → ∃ os : List Int, os.map f = js ∧ (∀ n ∈ os, n ∈ ms) ∧ js.map (fun j => (valV kvs (.inl j)).getD .non) = os.map V.int
  | [], _ => ⟨[], rfl, fun _ h => (nomatch h), rfl⟩
  | j :: r, hj => by
    obtain ⟨n, hn, e1, e2⟩ := h.val j (hj j (List.mem_cons_self ..))
    obtain ⟨os, o1, o2, o3⟩ := h.vals r fun i hi => hj i (List.mem_cons_of_mem _ hi)
    refine ⟨n :: os, by rw [List.map_cons, e1, o1], fun m hm => ?_, by rw [List.map_cons, List.map_cons, o3, e2]; rfl⟩
    rcases List.mem_cons.mp hm with rfl | hm
    · exact hn
    · exact o2 m hm
theorem ord_perm {f : Int → Int} {ws os js : List Int} (ej : os.map f = js) (nj : js.Nodup) (mj : ∀ k, k ∈ js ↔ k ∈ ws.map f) (mo : ∀ n ∈ os, n ∈ ws) (inj : ∀ x ∈ ws, ∀ y ∈ ws, x ≠ y → f x ≠ f y) (nd : ws.Nodup) : os.Perm ws := by
  have no : os.Nodup := by
    rw [← ej] at nj
    exact (List.pairwise_map.mp nj).imp fun h e => h (by rw [e])
  refine (List.perm_ext_iff_of_nodup no nd).mpr fun n => ⟨mo n, fun hn => ?_⟩
  obtain ⟨m, hm, e⟩ := List.mem_map.mp (ej ▸ (mj (f n)).mpr (List.mem_map.mpr ⟨n, hn, rfl⟩))
  by_cases z : m = n
  · exact z ▸ hm
  · exact absurd e (inj m (mo m hm) n hn z)
end
theorem ok_law_order (T : Tx K mg) : G.FnG P w K mg base CX0 3 (a_law_order K) (G.fdOf K (a_law_order K)) ["_law_ends", "_law_some", "_law_u", "_law_v"] sp_order := by
  refine G.ok_of (F_law_order T) sc_law_order (fun vs H Q E h => ?_) (fun cdv A outer s H vs Q E hr h => ?_)
  · obtain ⟨e, r, ws, a, b, c, d, rfl, _⟩ := h
    rfl
  · obtain ⟨e, r, ws, a, b, c, d, rfl, he, hr0, l, wb, b0, d0, ba, bb, bc, bd, k⟩ := h
    refine ⟨_, (pss_cons (ps_asg (G.pe_callG (ok_law_spot T) (hr.mono (by first | decide | omega)) rfl (gl_law_spot T) (F_law_spot T).kp (bi_law_spot T) .nil pass0 (pa_cons (pv 0) (pa_cons (pv 2) (pa_cons (pv 3) pa_nil)))) (pg_tup (n := 2) (by rfl) (pgs_cons (pg_name (i := 4) sc_law_order.nd rfl (Or.inl rfl)) (pgs_cons (pg_name (i := 5) sc_law_order.nd rfl (Or.inl rfl)) pgs_nil))))
    (pss_cons (ps_set (i := 6) sc_law_order.nd rfl (Or.inr rfl) L2.pe_dnewK)
    (pss_cons (ps_for PassesOwn.never rfl (pi_list (pv 1)) (pg_name (i := 7) sc_law_order.nd rfl (Or.inl rfl)) (pss_one (ps_dput (G.one_units hr) (pv 6) (pe_op G.op_modG (pe_callTy G.call_intG (by rfl) (fr_int T) boot_int (pa_cons (pe_op G.op_mulG (pv 7) (pv 4)) pa_nil)) (pv 5)) (pv 7) (by rfl))))
    (pss_one (ps_ret (pe_callTy G.call_tupG (by rfl) (fr_tuple T) boot_tuple (pa_cons (pe_lc (own := [("_law_key", 8)]) (by rfl) sc_law_order.nd (pi_list (pe_callB cr_sortedI (by rfl) (fr_sorted T) boot_sorted (pa_cons (pe_lock (pe_lc (own := [("_law_key", 8)]) (by rfl) sc_law_order.nd (pi_keys (pv 6)) (blkOk_by (N := ["_law_ends", "_law_some", "_law_u", "_law_v", "_law_top", "_law_bottom", "_law_at", "_law_number", "_law_key"]) (sc := defScope s_law_order) (by decide +kernel)) (fun _ _ _ _ _ => (pg_name (i := 8) sc_law_order.nd rfl (Or.inl rfl))) (fun _ _ _ _ _ => pts_nil) (fun _ _ _ _ _ => (pe_callTy G.call_intG (by rfl) (fr_int T) boot_int (pa_cons (pv 8) pa_nil))))) pa_nil))) (blkOk_by (N := ["_law_ends", "_law_some", "_law_u", "_law_v", "_law_top", "_law_bottom", "_law_at", "_law_number", "_law_key"]) (sc := defScope s_law_order) (by decide +kernel)) (fun _ _ _ _ _ => (pg_name (i := 8) sc_law_order.nd rfl (Or.inl rfl))) (fun _ _ _ _ _ => pts_nil) (fun _ _ _ _ _ => (pe_dget (G.one_units hr) (pv 6) (pv 8) (fun _ _ => rfl)))) pa_nil))))))), ?_⟩
    walk_at "start"
    walk_at "gos"
    refine spot_x he ba bb bc bd fun z H1 k1 e1 => ?_
    walk_at "gos"
    rename_i D H2 nD k2 eD
    have K2 := k1.trans k2
    refine G.for_lst (xs := inZ ws) (fun i σ H' => ∃ kvs ks v7, σ = [some (.ref e), some (.ref r), some (.int 1), some (.int 1), some (.int (a + c)), some (.int (b + d)), some (.ref D), v7, none] ∧ G.Kp H H' ∧ H' D = some (.dK kvs) ∧ OrdI (M92.key a b c d) kvs (ws.take i) ks ∧ kvs.length ≤ i ∧ i ≤ ws.length)
      ⟨[], [], none, rfl, K2, eD, ⟨rfl, .nil, by simp, fun _ h => nomatch h⟩, Nat.le_refl _, Nat.zero_le _⟩ (fun i σ H' _ ⟨_, _, _, _, kk, _⟩ => SqL.of (kk _ _ hr0)) ?_ ?_
    · rintro i v σ H3 hv ⟨kvs, ks, v7, rfl, k3, eD3, oi, kl, il⟩
      obtain ⟨n, hn, rfl⟩ : ∃ n, ws[i]? = some n ∧ V.int n = v := by simpa using hv
      have lt := (List.getElem?_eq_some_iff.mp hn).1
      have bn := wb n (List.mem_of_getElem? hn)
      walk_at "gos"
      refine G.dput_i eD3 (by rw [sizeLine_eq]; omega) fun H4 m4 e4 => ?_
      have tk : ws.take (i + 1) = ws.take i ++ [n] := by rw [List.take_add_one, hn]; rfl
      obtain ⟨ks', oi'⟩ := oi.step n
      rw [← tk] at oi'
      refine ⟨_, ks', _, rfl, G.Kp.MD (k1.back nD) k3 m4, e4, oi', ?_, lt⟩
      have := length_putK kvs (.inl (n * (a + c) % (b + d))) (.int n)
      omega
    · rintro σ H3 ⟨kvs, ks, v7, rfl, k3, eD3, oi, kl, il⟩
      have len : (inZ ws).length = ws.length := List.length_map ..
      rw [len] at kl
      rw [len, List.take_length] at oi
      have lk := congrArg List.length oi.keys
      rw [List.length_map, List.length_map] at lk
      walk_at "gos"
      refine G.keysI (σ0 := [some (.ref e), some (.ref r), some (.int 1), some (.int 1), some (.int (a + c)), some (.int (b + d)), some (.ref D), v7, none]) (ks := ks) eD3 oi.keys (by omega) rfl rfl (fun _ => rfl) (fun _ => rfl) fun q H4 n4 k4 e4 => ?_
      walk_at "gos"
      refine G.sorted_i (SqL.of e4) fun r2 js H5 n5 k5 pm asc e5 => ?_
      have nj : js.Nodup := pm.nodup_iff.mpr oi.nd
      have mj : ∀ j, j ∈ js ↔ j ∈ ks := fun j => pm.mem_iff
      have lj := pm.length_eq
      have eD5 := (k4.trans k5) _ _ eD3
      obtain ⟨os, o1, o2, o3⟩ := oi.vals js fun j hj => (mj j).mp hj
      have lo : os.length = js.length := by rw [← o1, List.length_map]
      walk_at "gos"
      refine G.lc_map1 (σ0 := [some (.ref e), some (.ref r), some (.int 1), some (.int 1), some (.int (a + c)), some (.int (b + d)), some (.ref D), v7, none]) (xs := inZ js) (ys := js.map fun j => (valV kvs (.inl j)).getD .non) (.inl ⟨rfl, e5⟩) rfl (fun x => rfl) (by simp) (by simp; omega) ?_ ?_
      · intro i v y H' R hv hy k6 hR
        obtain ⟨j, hj, rfl⟩ : ∃ n, js[i]? = some n ∧ V.int n = v := by simpa using hv
        obtain ⟨n, hn, e1, e2⟩ := oi.val j ((mj j).mp (List.mem_of_getElem? hj))
        have hy' : V.int n = y := by
          rw [List.getElem?_map, hj] at hy
          simpa [e2] using hy
        subst hy'
        have eD6 := k6 _ _ eD5
        walk_at "gos"
        refine G.dget_i eD6 e2 ?_
        exact hR _ G.Kp.refl
      · intro D2 H6 n6 e6 k6
        rw [o3] at e6
        walk_at "gos"
        rename_i z H7 n7 k7 e7
        refine k z H7 os (k3.trans (k4.trans (k5.trans (k6.trans k7)))) e7 (by omega) (fun ne z => by
          obtain ⟨y, hy⟩ := List.exists_mem_of_ne_nil ws ne
          have m := (mj _).mpr ((oi.mem _).mpr (List.mem_map.mpr ⟨y, hy, rfl⟩))
          rw [← o1, z] at m
          exact nomatch m) o2 fun inj nd => ⟨ord_perm o1 nj (fun j => (mj j).trans (oi.mem j)) o2 inj nd, ?_⟩
        have := (List.Pairwise.and asc nj).imp (S := (· < ·)) fun ⟨h1, h2⟩ => by omega
        rw [← o1] at this
        exact List.pairwise_map.mp this
end
end Lw

namespace Lw
/-! ### k92: what shows_ring tells is what the law asks -/
section
variable {a b c d : Int} {ns os ws : List Int}
theorem at0 {o : Int} {r : List Int} : M92.At (o :: r) 0 = o := by
  unfold M92.At
  rw [Nat.zero_mod]
  rfl
theorem due_iff (nb : M92.Nb a b c d) (bd : ∀ x ∈ ws, -48 ≤ x ∧ x ≤ 48) (asc : ws.Pairwise (· < ·)) (mem : ∀ k, k ∈ ws ↔ k = 0 ∨ k ∈ ns) : Shows a b c d ns os ↔ ¬ M92.Meets a b c d ws ∧ IsOrd a b c d ws os := by
  have nd : ws.Nodup := asc_nodup asc
  have b0 := nb.b0
  have d0 := nb.d0
  have w0 : (0 : Int) ∈ ws := (mem 0).mpr (.inl rfl)
  have one : os.Perm ws → os.length = 1 → ¬ M92.Meets a b c d ws := fun pm l => by
    rw [M92.meets_iff nb bd]
    rintro ⟨x, hx, y, hy, lt, _⟩
    have lw : ws.length = 1 := pm.length_eq ▸ l
    match ws, lw with
    | [z], _ =>
      rw [List.mem_singleton] at hx hy
      omega
  constructor
  · rintro ⟨h0, ⟨ws', asc', m', pm⟩, rd⟩
    have : ws' = ws := asc_uniq asc' asc fun k => (m' k).trans (mem k).symm
    subst this
    rcases rd with l | ar
    · refine ⟨one pm l, pm, ?_⟩
      match os, l with
      | [z], _ => exact List.pairwise_singleton _ _
    · rcases Nat.lt_or_ge os.length 2 with l | l
      · have lp : os.length = 1 := by
          have : 0 < os.length := List.length_pos_of_mem (pm.mem_iff.mpr w0)
          omega
        refine ⟨one pm lp, pm, ?_⟩
        match os, lp with
        | [z], _ => exact List.pairwise_singleton _ _
      · have a0 : M92.At os 0 = 0 := by
          match os, h0 with
          | o :: r, h0 => rw [at0]; exact Option.some.inj h0
        obtain ⟨nm, pw⟩ := (M92.around_iff nb bd pm nd a0 l).mp ar
        exact ⟨nm, pm, pw⟩
  · rintro ⟨nm, pm, pw⟩
    have o0 : (0 : Int) ∈ os := pm.mem_iff.mpr w0
    have k0 : M92.key a b c d 0 = 0 := by rw [M92.key, Int.zero_mul, Int.zero_emod]
    match os, o0, pm, pw with
    | o :: r, o0, pm, pw =>
      have eo : o = 0 := by
        rcases List.mem_cons.mp o0 with e | m
        · exact e.symm
        · have h1 := (List.pairwise_cons.mp pw).1 0 m
          have h2 : 0 ≤ M92.key a b c d o := Int.emod_nonneg _ (by omega)
          omega
      refine ⟨by rw [eo]; rfl, ⟨ws, asc, mem, pm⟩, ?_⟩
      rcases Nat.lt_or_ge (o :: r).length 2 with l | l
      · exact .inl (by rw [List.length_cons] at l ⊢; omega)
      · exact .inr ((M92.around_iff nb bd pm nd (by rw [at0, eo]) l).mpr ⟨nm, pw⟩)
/-- keys of numbers that do not meet are unlike -/
theorem keys_ne (nb : M92.Nb a b c d) (bd : ∀ x ∈ ws, -48 ≤ x ∧ x ≤ 48) (nm : ¬ M92.Meets a b c d ws) : ∀ x ∈ ws, ∀ y ∈ ws, x ≠ y → M92.key a b c d x ≠ M92.key a b c d y := fun x hx y hy ne => by
  rw [M92.meets_iff nb bd] at nm
  exact M92.key_ne nb (M92.no_pair nm hx hy ne) ne
/-- the one right order -/
theorem ord_uniq {xs ys : List Int} (h1 : IsOrd a b c d ws xs) (h2 : IsOrd a b c d ws ys) : xs = ys := M92.order_uniq (h1.1.trans h2.1.symm) h1.2 h2.2
end
end Lw

namespace Lw
open PySem PySem.Spec PyProof.Rows L2
/-- it can be shown -/
def ShowOk (D : PyData) : Prop := D.showable = true ∧ D.hasDict = false ∧ D.shown.length ≤ sizeLine ∧ D.depth ≤ 50
/-- texts of lists of numbers -/
structure Sh (ds : List PyData) (m d : Nat) : Prop where
  sh : PyData.showableAll ds = true
  nd : PyData.hasDictAll ds = false
  ls : PyData.leavesShortAll 1921 ds = true
  bk : PyData.bulkAll ds ≤ m
  dp : PyData.depthAll ds ≤ d
theorem Sh.ok_t {ds : List PyData} {m d : Nat} (h : Sh ds m d) (l : m ≤ 1000) (l2 : d ≤ 20) : ShowOk (.tuple ds) := by
  obtain ⟨h1, h2, h3, h4, h5⟩ := h
  refine ⟨by simp only [PyData.showable, h1], by simp only [PyData.hasDict, h2], ?_, ?_⟩
  · have := PyData.shown_le_bulk 1921 (by decide) (.tuple ds) (by simp only [PyData.leavesShort, h3])
    have e : (PyData.tuple ds).bulk = PyData.bulkAll ds := by simp only [PyData.bulk]
    rw [sizeLine_eq]
    omega
  · simp only [PyData.depth]
    omega
theorem Sh.ok_l {ds : List PyData} {m d : Nat} (h : Sh ds m d) (l : m ≤ 1000) (l2 : d ≤ 20) : ShowOk (.list ds) := by
  obtain ⟨h1, h2, h3, h4, h5⟩ := h
  refine ⟨by simp only [PyData.showable, h1], by simp only [PyData.hasDict, h2], ?_, ?_⟩
  · have := PyData.shown_le_bulk 1921 (by decide) (.list ds) (by simp only [PyData.leavesShort, h3])
    have e : (PyData.list ds).bulk = PyData.bulkAll ds := by simp only [PyData.bulk]
    rw [sizeLine_eq]
    omega
  · simp only [PyData.depth]
    omega
theorem Sh.nil : Sh [] 0 0 := ⟨rfl, rfl, rfl, Nat.le_refl _, Nat.le_refl _⟩
theorem Sh.int {ds : List PyData} {m d : Nat} {n : Int} (b : G.Bd 200 n) (h : Sh ds m d) : Sh (.int n :: ds) (m + 1) d := by
  obtain ⟨h1, h2, h3, h4, h5⟩ := h
  have lg : n.natAbs.log2 < 1920 := Nat.lt_of_le_of_lt (G.log_of b) (by decide)
  have ln : (PyData.shown (.int n)).length ≤ 1921 := int_text_len_1921 lg
  refine ⟨?_, ?_, ?_, ?_, ?_⟩
  · simp only [PyData.showableAll, PyData.showable, h1, decide_eq_true lg, Bool.and_true]
  · simp only [PyData.hasDictAll, PyData.hasDict, h2, Bool.or_false]
  · simp only [PyData.leavesShortAll, PyData.leavesShort, h3, decide_eq_true ln, Bool.and_true]
  · simp only [PyData.bulkAll, PyData.bulk]; omega
  · simp only [PyData.depthAll, PyData.depth]; omega
theorem Sh.ints : ∀ {ns : List Int}, (∀ n ∈ ns, G.Bd 200 n) → Sh (ns.map PyData.int) ns.length 0
  | [], _ => .nil
  | n :: r, h => .int (h n (List.mem_cons_self ..)) (Sh.ints fun m hm => h m (List.mem_cons_of_mem _ hm))
theorem nodup_len : ∀ {xs ys : List Int}, xs.Nodup → (∀ k ∈ xs, k ∈ ys) → xs.length ≤ ys.length
  | [], _, _, _ => Nat.zero_le _
  | x :: r, ys, h, g => by
    rw [List.nodup_cons] at h
    have mx := g x (List.mem_cons_self ..)
    have := nodup_len (xs := r) (ys := ys.erase x) h.2 fun k hk => (List.mem_erase_of_ne (fun e => h.1 (by rw [← e]; exact hk))).mpr (g k (List.mem_cons_of_mem _ hk))
    rw [List.length_erase_of_mem mx] at this
    have := List.length_pos_of_mem mx
    rw [List.length_cons]
    omega
section
variable {P : Program} {w : World} {K : PySem.W.Frag} {mg : Str → Option Value} {base : Heap} {H H' : Hp} {Q : VK} {E : XK} {v u : V} {z : Str} {D : PyData} {os : List Int}
theorem repr_D (h : Dp K H v D) (s : ShowOk D) (q : Q (.str D.shown) H) : G.rReprG K [v] H Q := ⟨v, D, rfl, h, s.1, s.2.1, s.2.2.1, s.2.2.2, q⟩
def Fc (K : PySem.W.Frag) (H : Hp) (v : V) (z : Str) : Prop := ∀ (Q : VK) (H' : Hp), G.Kp H H' → Q (.str z) H' → G.rReprGD K [v] H' Q
theorem Fc.kp (k : G.Kp H H') (h : Fc K H v z) : Fc K H' v z := fun Q H2 k2 q => h Q H2 (k.trans k2) q
theorem fc_d {D : PyData} (h : ∀ H', G.Kp H H' → Dp K H' v D) (h1 : D.showable = true) (h2 : D.hasDict = false) (h3 : D.shown.length ≤ sizeLine) (h4 : D.depth ≤ 50) : Fc K H v D.shown := fun Q H' k q => .inl ⟨v, D, rfl, h H' k, h1, h2, h3, h4, q⟩
theorem fc_0 {a : Addr} (h : H a = some (.dK [])) : Fc K H (.ref a) "{}" := fun Q H' k q => .inr ⟨a, rfl, k _ _ h, q⟩
theorem show_os (l : os.length ≤ 60) (b : ∀ n ∈ os, G.Bd 8 n) : ShowOk (.tuple (os.map PyData.int)) := (Sh.ints fun n hn => (b n hn).mono (by decide)).ok_t (by omega) (by decide)
theorem reprD_os {t : Addr} (h : H t = some (.tup (inZ os))) (l : os.length ≤ 60) (b : ∀ n ∈ os, G.Bd 8 n) (q : Q (.str (PyData.shown (.tuple (os.map PyData.int)))) H) : G.rReprGD K [.ref t] H Q := .inl (repr_D (.tup (.of h) (dpZ os)) (show_os l b) q)
/-- its text is no tuple's of numbers -/
def NoTx (K : PySem.W.Frag) (H : Hp) (u : V) : Prop := ∃ z, Fc K H u z ∧ ∀ os : List Int, z ≠ PyData.shown (.tuple (os.map PyData.int))
theorem NoTx.kp (k : G.Kp H H') (h : NoTx K H u) : NoTx K H' u := let ⟨z, f, n⟩ := h; ⟨z, f.kp k, n⟩
def sp_due (K : PySem.W.Frag) : Sp := fun vs H Q _ => ∃ (e r : Addr) (ns : List Int) (a b c d : Int) (u : V), vs = [.ref e, .ref r, u] ∧ H e = some (.tup [.int a, .int b, .int c, .int d]) ∧ H r = some (.lst (inZ ns)) ∧ ns.length ≤ 20 ∧ In48 ns ∧ M92.Nb a b c d ∧ G.Bd 100 a ∧ G.Bd 100 b ∧ G.Bd 100 c ∧ G.Bd 100 d ∧
  ((∃ (t : Addr) (os : List Int), u = .ref t ∧ H t = some (.tup (inZ os)) ∧ os.length ≤ 60 ∧ (∀ n ∈ os, G.Bd 8 n) ∧ ∀ (H' : Hp) (τ : Bool), G.Kp H H' → (τ = true ↔ Shows a b c d ns os) → Q (.bl τ) H') ∨
   (NoTx K H u ∧ ∀ H', G.Kp H H' → Q (.bl false) H'))
end
section
variable {P : Program} [hP : G.SupP P "/claim/cut.py"] {w : World} {K : PySem.W.Frag} {mg : Str → Option Value} {base : Heap}
theorem ok_law_due (T : Tx K mg) : G.FnG P w K mg base CX0 5 (a_law_due K) (G.fdOf K (a_law_due K)) ["_law_ends", "_law_some", "_law_value"] (sp_due K) := by
  refine G.ok_of (F_law_due T) sc_law_due (fun vs H Q E h => ?_) (fun cdv A outer s H vs Q E hr h => ?_)
  · obtain ⟨e, r, ns, a, b, c, d, u, rfl, _⟩ := h
    rfl
  · obtain ⟨e, r, ns, a, b, c, d, u, rfl, he, hr0, l20, n48, nb, ba, bb, bc, bd, h⟩ := h
    have b0 := nb.b0
    have d0 := nb.d0
    refine ⟨_, (pss_cons (ps_set (i := 3) sc_law_due.nd rfl (Or.inl rfl) (pe_callB (G.cr_sortedSet rfl) (by rfl) (fr_sorted T) boot_sorted (pa_cons (pe_callTy (G.cr_setL rfl) (by rfl) (fr_set T) boot_set (pa_cons (pe_op G.op_addG (pe_lst (pa_cons pe_int pa_nil)) (pe_lc (own := [("_law_number", 4)]) (by rfl) sc_law_due.nd (pi_list (pv 1)) (blkOk_by (N := ["_law_ends", "_law_some", "_law_value", "_law_row", "_law_number"]) (sc := defScope s_law_due) (by decide +kernel)) (fun _ _ _ _ _ => (pg_name (i := 4) sc_law_due.nd rfl (Or.inl rfl))) (fun _ _ _ _ _ => pts_nil) (fun _ _ _ _ _ => (pe_callTy G.call_intG (by rfl) (fr_int T) boot_int (pa_cons (pv 4) pa_nil))))) pa_nil)) pa_nil)))
    (pss_cons (ps_if (pt_cmpR G.op_notNG (G.pe_callG (ok_law_meeting T) (hr.mono (by first | decide | omega)) rfl (gl_law_meeting T) (F_law_meeting T).kp (bi_law_meeting T) .nil pass0 (pa_cons (pv 0) (pa_cons (pv 3) pa_nil))) pe_non (nomark _)) (pss_one (ps_ret pe_bl)) pss_nil)
    (pss_one (ps_ret (pe_cmpR (G.op_eqG hr.units) (pe_callB (G.call_reprGD hr) (by rfl) (fr_repr T) boot_repr (pa_cons (pv 2) pa_nil)) (pe_callB (G.call_reprGD hr) (by rfl) (fr_repr T) boot_repr (pa_cons (G.pe_callG (ok_law_order T) (hr.mono (by first | decide | omega)) rfl (gl_law_order T) (F_law_order T).kp (bi_law_order T) .nil pass0 (pa_cons (pv 0) (pa_cons (pv 3) (pa_cons pe_int (pa_cons pe_int pa_nil))))) pa_nil)) (nomark _)))))), ?_⟩
    walk_at "start"
    walk_at "gos"
    rename_i z H3 n3 k3 e3
    refine G.lc_map1 (σ0 := [some (.ref e), some (.ref r), some u, none, none]) (xs := inZ ns) (ys := inZ ns) (.inl ⟨rfl, k3 _ _ hr0⟩) rfl (fun x => rfl) rfl (by simp; omega) ?_ ?_
    · intro i v y H' R hv hy k1 hR
      obtain ⟨n, hn, rfl⟩ : ∃ n, ns[i]? = some n ∧ V.int n = v := by simpa using hv
      rw [hv] at hy
      cases hy
      walk_at "gos"
      exact hR _ G.Kp.refl
    · intro D H4 nD eD k4
      walk_at "gos"
      refine G.add_ll (k4 _ _ e3) eD (by simp; omega) fun p5 H5 n5 k5 e5 => ?_
      rw [show [V.int 0] ++ inZ ns = inZ (0 :: ns) from rfl] at e5
      walk_at "gos"
      refine G.set_l (SqL.of e5) (by simp; omega) fun sa c2 H6 n6 k6 lc e6 => ?_
      walk_at "gos"
      refine G.sorted_s e6 (by simp at lc; omega) fun sl ws H7 n7 k7 asc mem e7 => ?_
      have mem' : ∀ k, k ∈ ws ↔ k = 0 ∨ k ∈ ns := fun k => by rw [mem, decide_eq_true_iff, List.mem_cons]
      have b48 : ∀ x ∈ ws, -48 ≤ x ∧ x ≤ 48 := fun x hx => by
        rcases (mem' x).mp hx with rfl | m
        · omega
        · exact n48.2 x m
      have lw : ws.length ≤ 21 := by
        have := nodup_len (ys := 0 :: ns) (asc_nodup asc) fun k hk => List.mem_cons.mpr ((mem' k).mp hk)
        rw [List.length_cons] at this
        omega
      have wb : ∀ x ∈ ws, G.Bd 8 x := fun x hx => bd48 (b48 x hx)
      have KH := k3.trans (k4.trans (k5.trans (k6.trans k7)))
      have he7 := KH _ _ he
      have e7' : H7 sl = some (.lst (inZ ws)) := e7
      have di := fun os => due_iff (os := os) nb b48 asc mem'
      clear e5 lc e6 mem eD k4 k5 k6 k7 n5 n6 n7 e3 n3 nD k3 e7
      walk_at "gos"
      refine ⟨e, sl, ws, a, b, c, d, rfl, he7, e7', by omega, wb, b0, ba, bb, bc, bd, fun z H8 k8 mt => ?_, fun H8 k8 nm => ?_⟩
      · walk_at "gos"
        refine ifnF' (by simp) ?_
        walk_at "gos"
        rcases h with ⟨t, os, rfl, ht, lo, ob, k⟩ | ⟨no, k⟩
        · exact k _ false (KH.trans k8) ⟨fun z => (nomatch z), fun z => (((di os).mp z).1 mt).elim⟩
        · exact k _ (KH.trans k8)
      · walk_at "gos"
        refine ifnT' rfl ?_
        walk_at "gos"
        have K8 := KH.trans k8
        have he8 := k8 _ _ he7
        have e8 := k8 _ _ e7'
        rcases h with ⟨t, os, rfl, ht, lo, ob, k⟩ | ⟨⟨zz, fc, ne⟩, k⟩
        · refine reprD_os (K8 _ _ ht) lo ob ?_
          walk_at "gos"
          refine ⟨e, sl, ws, a, b, c, d, rfl, he8, e8, by omega, wb, b0, d0, ba, bb, bc, bd, fun z2 H9 os2 k9 e9 l9 _ m9 o9 => ?_⟩
          have io := o9 (keys_ne nb b48 nm) (asc_nodup asc)
          walk_at "gos"
          refine reprD_os e9 (by omega) (fun n hn => wb n (m9 n hn)) ?_
          walk_at "gos"
          refine k _ _ (K8.trans k9) ?_
          rw [decide_eq_true_iff, di]
          exact ⟨fun z => ⟨nm, (tup_inj z).symm ▸ io⟩, fun z => by rw [ord_uniq z.2 io]⟩
        · refine fc _ _ K8 ?_
          walk_at "gos"
          refine ⟨e, sl, ws, a, b, c, d, rfl, he8, e8, by omega, wb, b0, d0, ba, bb, bc, bd, fun z2 H9 os2 k9 e9 l9 _ m9 o9 => ?_⟩
          walk_at "gos"
          refine reprD_os e9 (by omega) (fun n hn => wb n (m9 n hn)) ?_
          walk_at "gos"
          rw [decide_eq_false (ne os2)]
          exact k _ (K8.trans k9)
end
end Lw

namespace Lw
open PySem PySem.Spec PyProof.Rows L2
/-! ### k92: drawn ends, numbers -/
/-- ends of a drawn piece -/
structure Ends (a b c d : Int) : Prop where
  nb : M92.Nb a b c d
  a0 : 0 ≤ a
  ab : a < b
  c0 : 0 < c
  cd : c ≤ d
theorem Ends.mid1 {a b c d : Int} (h : Ends a b c d) : Ends a b (a + c) (b + d) := by
  obtain ⟨⟨b0, d0, det⟩, a0, ab, c0, cd⟩ := h
  exact ⟨⟨b0, by omega, by rw [Int.mul_add, Int.mul_add, Int.mul_comm b a]; omega⟩, a0, ab, by omega, by omega⟩
theorem Ends.mid2 {a b c d : Int} (h : Ends a b c d) : Ends (a + c) (b + d) c d := by
  obtain ⟨⟨b0, d0, det⟩, a0, ab, c0, cd⟩ := h
  exact ⟨⟨by omega, d0, by rw [Int.add_mul, Int.add_mul, Int.mul_comm d c]; omega⟩, by omega, by omega, c0, cd⟩
section
variable {H : Hp} {Q : VK} {E : XK} {p l : Addr} {n : Nat}
def sp_walk : Sp := fun vs H Q _ => ∃ (p l : Addr) (n : Nat), vs = [.ref p, .int 8] ∧ PenL H p l n ∧ n < 900000 ∧ ∀ z H' a b c d, H z = none → G.Md p H H' → PenL H' p l (n + 9) → Ends a b c d → b ≤ 256 → d ≤ 256 → H' z = some (.tup [.int a, .int b, .int c, .int d]) → Q (.ref z) H'
theorem bd256 {i : Int} (h0 : 0 ≤ i) (h : i ≤ 256) : G.Bd 12 i := (G.Bd.of_le (G.Bd.lit 256) (by omega)).mono (by decide)
end
section
variable {P : Program} [hP : G.SupP P "/claim/cut.py"] {w : World} {K : PySem.W.Frag} {mg : Str → Option Value} {base : Heap}
theorem ok_law_walk (T : Tx K mg) : G.FnG P w K mg base CX0 3 (a_law_walk K) (G.fdOf K (a_law_walk K)) ["_law_pen_here", "_law_most"] sp_walk := by
  refine G.ok_of (F_law_walk T) sc_law_walk (fun vs H Q E h => ?_) (fun cdv A outer s H vs Q E hr h => ?_)
  · obtain ⟨p, l, n, rfl, _⟩ := h
    rfl
  · obtain ⟨p, l, n, rfl, hp, hn, k⟩ := h
    obtain ⟨ys, hys⟩ := hp.is
    refine ⟨_, (pss_cons (ps_asg (pe_tup (pa_cons pe_int (pa_cons pe_int (pa_cons pe_int (pa_cons pe_int pa_nil))))) (pg_tup (n := 4) (by rfl) (pgs_cons (pg_name (i := 2) sc_law_walk.nd rfl (Or.inl rfl)) (pgs_cons (pg_name (i := 3) sc_law_walk.nd rfl (Or.inl rfl)) (pgs_cons (pg_name (i := 4) sc_law_walk.nd rfl (Or.inl rfl)) (pgs_cons (pg_name (i := 5) sc_law_walk.nd rfl (Or.inl rfl)) pgs_nil))))))
    (pss_cons (ps_for PassesOwn.never rfl (pi_range1 rfl (fr_range T) (pa_cons (G.pe_callG (ok_law_draw T) (hr.mono (by first | decide | omega)) rfl (gl_law_draw T) (F_law_draw T).kp (bi_law_draw T) .nil pass0 (pa_cons (pv 0) (pa_cons (pe_op G.op_addG (pv 1) pe_int) pa_nil))) pa_nil)) (pg_name (i := 6) sc_law_walk.nd rfl (Or.inl rfl)) (pss_one (ps_if (pt_cmpR (G.op_eqG hr.units) (G.pe_callG (ok_law_draw T) (hr.mono (by first | decide | omega)) rfl (gl_law_draw T) (F_law_draw T).kp (bi_law_draw T) .nil pass0 (pa_cons (pv 0) (pa_cons pe_int pa_nil))) pe_int (nomark _)) (pss_one (ps_par (i := 4) (j := 5) (by rfl) sc_law_walk.nd rfl rfl (by decide) rfl rfl (pa_cons (pe_op G.op_addG (pv 2) (pv 4)) (pa_cons (pe_op G.op_addG (pv 3) (pv 5)) pa_nil)) (by rfl))) (pss_one (ps_par (i := 2) (j := 3) (by rfl) sc_law_walk.nd rfl rfl (by decide) rfl rfl (pa_cons (pe_op G.op_addG (pv 2) (pv 4)) (pa_cons (pe_op G.op_addG (pv 3) (pv 5)) pa_nil)) (by rfl))))))
    (pss_one (ps_ret (pe_tup (pa_cons (pv 2) (pa_cons (pv 3) (pa_cons (pv 4) (pa_cons (pv 5) pa_nil))))))))), ?_⟩
    walk_at "start"
    walk_at "gos"
    rename_i tp H1 n1 k1 e1 e H2 m2 p2 d0 d9
    have m12 : G.Md p H H2 := (G.Md.of_kp hys k1).trans m2
    refine G.for_rng (fun i σ H' => G.Md p H H' ∧ PenL H' p l (n + 1 + i) ∧ ∃ a b c d v6, σ = [some (.ref p), some (.int 8), some (.int a), some (.int b), some (.int c), some (.int d), v6] ∧ Ends a b c d ∧ b ≤ 2 ^ i ∧ d ≤ 2 ^ i) ⟨m12, p2, 0, 1, 1, 1, none, rfl, ⟨⟨by decide, by decide, by decide⟩, by decide, by decide, by decide, by decide⟩, by decide, by decide⟩ ?_ ?_
    · rintro i σ H3 hi ⟨m3, p3, a, b, c, d, v6, rfl, en, b2, d2⟩
      have i8 : i < 8 := by omega
      have pw : (2 : Int) ^ i ≤ 2 ^ 7 := by
        have : (2 : Nat) ^ i ≤ 2 ^ 7 := Nat.pow_le_pow_right (by decide) (by omega)
        exact_mod_cast this
      have b256 : b ≤ 128 := Int.le_trans b2 pw
      have d256 : d ≤ 128 := Int.le_trans d2 pw
      have e0 := en.a0
      have e1 := en.ab
      have e2 := en.c0
      have e3 := en.cd
      have xa := bd256 (i := a) (by omega) (by omega)
      have xb := bd256 (i := b) (by omega) (by omega)
      have xc := bd256 (i := c) (by omega) (by omega)
      have xd := bd256 (i := d) (by omega) (by omega)
      have pw2 : (2 : Int) ^ (i + 1) = 2 * 2 ^ i := by rw [Int.pow_succ, Int.mul_comm]
      walk_at "gos"
      rename_i v H4 m4 p4 v0 v1
      by_cases c1 : v = 0
      · refine ifdT c1 ?_
        walk_at "gos"
        refine ⟨m3.trans m4, p4.mono (by omega), _, _, _, _, _, rfl, en.mid1, by omega, by omega⟩
      · refine ifdF c1 ?_
        walk_at "gos"
        refine ⟨m3.trans m4, p4.mono (by omega), _, _, _, _, _, rfl, en.mid2, by omega, by omega⟩
    · rintro σ H3 ⟨m3, p3, a, b, c, d, v6, rfl, en, b2, d2⟩
      walk_at "gos"
      rename_i z H4 n4 k4 e4
      have pw : (2 : Int) ^ e.toNat ≤ 2 ^ 8 := by
        have : (2 : Nat) ^ e.toNat ≤ 2 ^ 8 := Nat.pow_le_pow_right (by decide) (by omega)
        exact_mod_cast this
      have p28 : (2 : Int) ^ 8 = 256 := by decide
      exact k z H4 a b c d (m3.back n4) (m3.kp_r k4) ((p3.kp k4).mono (by omega)) en (by omega) (by omega) e4
end
end Lw

namespace Lw
open PySem PySem.Spec PyProof.Rows L2
/-! ### k92: the piece of drawn ends -/
section
variable {H : Hp} {Q : VK} {E : XK} {e : Addr} {a b c d : Int}
def sp_piece (K : PySem.W.Frag) : Sp := fun vs H Q _ => ∃ (e : Addr) (a b c d : Int), vs = [.ref e] ∧ H e = some (.tup [.int a, .int b, .int c, .int d]) ∧ Ends a b c d ∧ b ≤ 256 ∧ d ≤ 256 ∧ ∀ x H', H x = none → G.Kp H H' → IsK K H' x a b c d → Q (.ref x) H'
theorem gcd_nb (det : b * c - a * d = 1) : Int.gcd a b = 1 ∧ Int.gcd c d = 1 := by
  constructor
  · have h1 : ((Int.gcd a b : Nat) : Int) ∣ 1 := by
      rw [← det]
      exact Int.dvd_sub (Int.dvd_mul_of_dvd_left (Int.gcd_dvd_right ..)) (Int.dvd_mul_of_dvd_left (Int.gcd_dvd_left ..))
    have := Int.le_of_dvd (by decide) h1
    have h3 : Int.gcd a b ≠ 0 := fun z => by rw [z] at h1; simp at h1
    omega
  · have h1 : ((Int.gcd c d : Nat) : Int) ∣ 1 := by
      rw [← det]
      exact Int.dvd_sub (Int.dvd_mul_of_dvd_right (Int.gcd_dvd_left ..)) (Int.dvd_mul_of_dvd_right (Int.gcd_dvd_right ..))
    have := Int.le_of_dvd (by decide) h1
    have h3 : Int.gcd c d ≠ 0 := fun z => by rw [z] at h1; simp at h1
    omega
theorem q_0 (q : Rat) : 0 ≤ q.num ↔ 0 ≤ q := by simp
theorem q_00 (q : Rat) : 0 < q.num ↔ 0 < q := by
  have h := Rat.lt_iff 0 q
  simp at h
  exact h.symm
theorem q_1 (q : Rat) : q.num < (q.den : Int) ↔ q < 1 := by
  have h := Rat.lt_iff q 1
  simp at h
  exact h.symm
theorem q_11 (q : Rat) : q.num ≤ (q.den : Int) ↔ q ≤ 1 := by
  have h := Rat.le_iff q 1
  simp at h
  exact h.symm
theorem num_den (b0 : 0 < b) (g : Int.gcd a b = 1) : (Rat.divInt a b).num = a ∧ ((Rat.divInt a b).den : Int) = b := by
  obtain ⟨h1, h2⟩ := low_rat (t := a) (b := b) (n := a) (d := b) ⟨b0, g, 1, by omega, by omega⟩ (by omega)
  exact ⟨h1.symm, h2.symm⟩
end
section
variable {P : Program} [hP : G.SupP P "/claim/cut.py"] {w : World} {K : PySem.W.Frag} {mg : Str → Option Value} {base : Heap}
theorem ok_law_piece (T : Tx K mg) : G.FnG P w K mg base CX0 8 (a_law_piece K) (G.fdOf K (a_law_piece K)) ["_law_ends"] (sp_piece K) := by
  refine G.ok_of (F_law_piece T) sc_law_piece (fun vs H Q E h => ?_) (fun cdv A outer s H vs Q E hr h => ?_)
  · obtain ⟨e, a, b, c, d, rfl, _⟩ := h
    rfl
  · obtain ⟨e, a, b, c, d, rfl, he, en, b2, d2, k⟩ := h
    have a0 := en.a0
    have ab := en.ab
    have c0 := en.c0
    have cd := en.cd
    have xa := bd256 (i := a) (by omega) (by omega)
    have xb := bd256 (i := b) (by omega) (by omega)
    have xc := bd256 (i := c) (by omega) (by omega)
    have xd := bd256 (i := d) (by omega) (by omega)
    obtain ⟨g1, g2⟩ := gcd_nb en.nb.det
    obtain ⟨n1, n2⟩ := num_den en.nb.b0 g1
    obtain ⟨n3, n4⟩ := num_den en.nb.d0 g2
    refine ⟨_, (pss_one (ps_ret (G.pe_makeG (mk_Piece T) (ok_Piece_init T) (hr.mono (by first | decide | omega)) rfl (gl_Piece T) (bi_Piece_init T) .nil pass0 (pa_cons (G.pe_makeG (mk_Ratio T) (ok_Ratio_init T) (hr.mono (by first | decide | omega)) rfl (gl_Ratio T) (bi_Ratio_init T) .nil pass0 (pa_cons (pe_ix ix_seq (pv 0) pe_int (fun _ _ => rfl)) (pa_cons (pe_ix ix_seq (pv 0) pe_int (fun _ _ => rfl)) pa_nil))) (pa_cons (G.pe_makeG (mk_Ratio T) (ok_Ratio_init T) (hr.mono (by first | decide | omega)) rfl (gl_Ratio T) (bi_Ratio_init T) .nil pass0 (pa_cons (pe_ix ix_seq (pv 0) pe_int (fun _ _ => rfl)) (pa_cons (pe_ix ix_seq (pv 0) pe_int (fun _ _ => rfl)) pa_nil))) pa_nil))))), ?_⟩
    walk_at "start"
    walk_at "gos"
    rename_i r1 H1 m1 k1 i1 r2 H2 m2 k2 i2
    have q1 : IsQ K H2 r1 (Rat.divInt a b) 12 := ⟨by rw [n1, n2]; exact i1.kp k2, by rw [n1]; exact xa, by rw [n2]; exact xb⟩
    have q2 : IsQ K H2 r2 (Rat.divInt c d) 12 := ⟨by rw [n3, n4]; exact i2, by rw [n3]; exact xc, by rw [n4]; exact xd⟩
    refine mk_PQ (q := Rat.divInt a b) (r := Rat.divInt c d) (m := 12) (l := 12) (.of_q q1) (.of_q q2) ⟨by rw [n1, n2, n3, n4]; exact en.nb.det, (q_0 _).mp (by omega), (q_1 _).mp (by omega), (q_00 _).mp (by omega), (q_11 _).mp (by omega), by decide, by decide, by decide, by decide⟩ fun x l r H3 hn k3 ip => ?_
    exact k x H3 ((k1.trans k2).back hn) (k1.trans (k2.trans k3)) ⟨l, r, _, _, _, _, ip, n1, n2, n3, n4, by decide, by decide⟩
end
end Lw

namespace Lw
open PySem PySem.Spec PyProof.Rows L2
/-! ### k92: drawn numbers -/
def sp_nums : Sp := fun vs H Q _ => ∃ (p l : Addr) (n : Nat) (far : Int), vs = [.ref p, .int far] ∧ PenL H p l n ∧ n < 900000 ∧ 2 ≤ far ∧ far ≤ 48 ∧ ∀ z H' ns, H z = none → G.Md p H H' → PenL H' p l (n + 8) → H' z = some (.lst (inZ ns)) → ns.length ≤ 10 → (∀ x ∈ ns, -48 ≤ x ∧ x ≤ 48) → Q (.ref z) H'
section
variable {P : Program} [hP : G.SupP P "/claim/cut.py"] {w : World} {K : PySem.W.Frag} {mg : Str → Option Value} {base : Heap}
theorem ok_law_numbers (T : Tx K mg) : G.FnG P w K mg base CX0 3 (a_law_numbers K) (G.fdOf K (a_law_numbers K)) ["_law_pen_here", "_law_far"] sp_nums := by
  refine G.ok_of (F_law_numbers T) sc_law_numbers (fun vs H Q E h => ?_) (fun cdv A outer s H vs Q E hr h => ?_)
  · obtain ⟨p, l, n, far, rfl, _⟩ := h
    rfl
  · obtain ⟨p, l, n, far, rfl, hp, hn, f2, f48, k⟩ := h
    have bf : G.Bd 8 far := bd48 (by omega)
    refine ⟨_, (pss_cons (ps_setLc (i := 2) (own := [("_law_k", 3)]) (by rfl) sc_law_numbers.nd rfl rfl (sw_true rfl rfl rfl (by decide +kernel)) (pi_range1 rfl (fr_range T) (pa_cons (G.pe_callG (ok_law_draw T) (hr.mono (by first | decide | omega)) rfl (gl_law_draw T) (F_law_draw T).kp (bi_law_draw T) .nil pass0 (pa_cons (pv 0) (pa_cons pe_int pa_nil))) pa_nil)) (blkOk_by (N := ["_law_pen_here", "_law_far", "_law_found", "_law_k"]) (sc := defScope s_law_numbers) (by decide +kernel)) (fun _ _ _ _ _ => (pg_name (i := 3) sc_law_numbers.nd rfl (Or.inl rfl))) (fun _ _ _ _ _ => pts_nil) (fun _ _ _ _ _ => (pe_op G.op_subG (G.pe_callG (ok_law_draw T) (hr.mono (by first | decide | omega)) rfl (gl_law_draw T) (F_law_draw T).kp (bi_law_draw T) .nil pass0 (pa_cons (pv 0) (pa_cons (pe_op (G.op_addK (K := K) rfl) (pe_op G.op_mulG pe_int (pv 1)) pe_int) pa_nil))) (pv 1))))
    (pss_one (ps_ret (pe_op G.op_addG (pv 2) (pe_slice G.sl_G (pv 2) po_none (po_some (G.pe_callG (ok_law_draw T) (hr.mono (by first | decide | omega)) rfl (gl_law_draw T) (F_law_draw T).kp (bi_law_draw T) .nil pass0 (pa_cons (pv 0) (pa_cons pe_int pa_nil))))))))), ?_⟩
    walk_at "start"
    walk_at "gos"
    rename_i e H1 m1 p1 e0 e6
    refine G.lc_rngG (σ0 := ?z0) (fun D i H' => ∃ ns : List Int, G.Md p H H' ∧ H D = none ∧ p ≠ D ∧ l ≠ D ∧ PenL H' p l (n + 1 + i) ∧ H' D = some (.lst (inZ ns)) ∧ ns.length = i ∧ ∀ x ∈ ns, -48 ≤ x ∧ x ≤ 48) ?e ?h0 ?hs ?hd
    case e => (simp only [List.map_cons, List.map_nil, L2.wipe, List.set_cons_zero, List.set_cons_succ]; rfl)
    case h0 =>
      intro D H2 nD k2 e2
      obtain ⟨g2, g3⟩ := p1.fresh nD
      exact ⟨[], m1.kp_r k2, m1.back nD, g2, g3, p1.kp k2, e2, rfl, fun _ h => (nomatch h)⟩
    case hs =>
      rintro D i H2 hi ⟨ns, m2, nD, d1, d2, p2, eD, el, nb⟩
      have hi2 : i < 5 := by omega
      walk_at "gos"
      rename_i v H3 m3 p3 v0 v9
      have eD3 := m3.lst eD d1.symm
      refine G.st_app eD3 (by rw [List.length_map, sizeLine_eq]; omega) fun H4 m4 e4 => ?_
      refine ⟨ns ++ [v - far], (m2.trans m3).md_new m4 nD, nD, d1, d2, (p3.md m4 d1 d2).mono (by omega), by rw [inZ, List.map_append]; exact e4, by rw [List.length_append, List.length_singleton, el], fun x hx => ?_⟩
      rcases List.mem_append.mp hx with z | z
      · exact nb x z
      · rw [List.mem_singleton] at z
        omega
    rintro D H2 ⟨ns, m2, nD, d1, d2, p2, eD, el, nb⟩
    walk_at "gos"
    rename_i v H3 m3 p3 v0 v2 q H4 n4 k4 e4
    obtain ⟨m, rfl⟩ : ∃ m : Nat, v = (m : Int) := ⟨v.toNat, by omega⟩
    have cut : cutV (inZ ns) none (some (m : Int)) = inZ (ns.take m) := by
      rw [cutV, List.length_map, HT.sIx_nat, show HT.sIx ns.length 0 none = 0 from rfl, List.drop_zero, Nat.sub_zero, inZ, ← List.map_take]
      rcases Nat.le_total m ns.length with g | g
      · rw [Nat.min_eq_left g]
      · rw [Nat.min_eq_right g, List.take_length, List.take_of_length_le g]
    rw [cut] at e4
    have eD4 := k4 _ _ (m3.lst eD d1.symm)
    have lt : (ns.take m).length ≤ ns.length := by rw [List.length_take]; omega
    refine G.add_ll eD4 e4 (by rw [List.length_map, List.length_map]; omega) fun z H5 n5 k5 e5 => ?_
    have KK := k4.trans k5
    refine k z H5 (ns ++ ns.take m) ((m2.trans m3).back (k4.back n5)) ((m2.trans m3).kp_r KK) ((p3.kp KK).mono (by omega)) (by rw [e5, inZ, inZ, inZ, List.map_append]) (by rw [List.length_append]; omega) fun x hx => ?_
    rcases List.mem_append.mp hx with g | g
    · exact nb x g
    · exact nb x (List.mem_of_mem_take g)
end
end Lw

namespace Lw
open PySem PySem.Spec PyProof.Rows L2
/-! ### k92: shows_ring refuses what is no piece -/
section
variable {K : PySem.W.Frag} {mg : Str → Option Value} {H H' : Hp} {Q : VK} {E : XK} {v : V}
def XPc (K : PySem.W.Frag) (E : XK) (H : Hp) : Prop := ∀ d H', G.Kp H H' → H' d = some (.xd [("part", .str "piece")]) → E (.ref (He.ga K "BadPiece")) (some d) H'
/-- no piece -/
def NoPc (K : PySem.W.Frag) (H : Hp) (v : V) : Prop := (∃ ty, OddV H v ty) ∨ (∃ i, v = .int i) ∨ ∃ a t b, v = .ref a ∧ IsR K H a t b
theorem NoPc.kp (k : G.Kp H H') (h : NoPc K H v) : NoPc K H' v := by
  rcases h with ⟨ty, o⟩ | h | ⟨a, t, b, e, r⟩
  · exact .inl ⟨ty, o.kp k⟩
  · exact .inr (.inl h)
  · exact .inr (.inr ⟨a, t, b, e, r.kp k⟩)
theorem isi_npc (T : Tx K mg) (h : NoPc K H v) (q : Q (.bl false) H) : G.rIsiG K [v, .ref (He.ga K "Piece")] H Q := by
  rcases h with ⟨ty, o⟩ | ⟨i, rfl⟩ | ⟨a, t, b, rfl, r⟩
  · refine G.isi_cl o.tx ?_ q
    cases o with
    | non => exact ki_NoneType_Piece T
    | bl b => exact ki_bool_Piece T
    | str s => exact ki_str_Piece T
    | tup e => exact ki_tuple_Piece T
    | lst e => exact ki_list_Piece T
    | dct e => exact ki_dict_Piece T
  · exact G.isi_cl (.base (.int _)) (ki_int_Piece T) q
  · exact G.isi_cl (r.ty T) (ki_Ratio_Piece T) q
def spx_shows (K : PySem.W.Frag) : Sp := fun vs H _ E => ∃ w v u, vs = [w, v, u] ∧ NoPc K H w ∧ XPc K E H
end
section
variable {P : Program} [hP : G.SupP P "/claim/cut.py"] {w : World} {K : PySem.W.Frag} {mg : Str → Option Value} {base : Heap}
theorem okx_shows_ring (T : Tx K mg) : G.FnG P w K mg base (L2.CX P w) 4 (a_shows_ring K) (G.fdOf K (a_shows_ring K)) ["piece", "numbers", "order"] (spx_shows K) := by
  refine G.ok_ofX (F_shows_ring T) sc_shows_ring (fun vs H Q E h => ?_) (fun cdv A outer s H vs Q E hr tk h => ?_)
  · obtain ⟨w, v, u, rfl, _⟩ := h
    rfl
  · obtain ⟨w, v, u, rfl, hw, k⟩ := h
    refine ⟨_, (pss_cons (ps_if (pt_not (pt_val (pe_callB G.call_isiG (by rfl) (fr_isinstance T) boot_isinstance (pa_cons (pv 0) (pa_cons (G.pe_cl rfl (gl_Piece T)) pa_nil))))) (pss_one (G.ps_raiseS rfl tk hP (su_BadPiece T) (fr_super T) (hr.mono (by first | decide | omega)).rm rfl (gl_BadPiece T) (pa_cons pe_str pa_nil))) pss_nil)
    (pss_cons ps_never
    (pss_cons ps_never
    (pss_cons ps_never
    (pss_one ps_never))))), ?_⟩
    walk_at "start"
    walk_at "gos"
    refine isi_npc T hw ?_
    walk_at "gos"
    exact k _ _ (by assumption) (by assumption)
end
end Lw

namespace Lw
open PySem PySem.Spec PyProof.Rows L2
/-! ### k92: what a call tells -/
section
variable {P : Program} {w : World} {K : PySem.W.Frag} {mg : Str → Option Value} {base : Heap} {H H' : Hp} {Q : VK} {E : XK} {v : V}
theorem append_lz {a : Addr} {y : V} {xs zs : List V} (h : H a = some (.lst xs)) (l : xs.length < 900) (e : xs ++ [y] = zs) (q : ∀ H', G.Md a H H' → H' a = some (.lst zs) → Q .non H') : rAppend (.ref a) [y] H Q :=
  G.append_l h (by rw [sizeLine_eq]; omega) fun H' m e2 => q H' m (by rw [← e]; exact e2)
theorem boot_ValueError : bootBuiltins "ValueError" = some (.type "ValueError") := by decide +kernel
/-- the exception that it takes -/
def Eh (K : PySem.W.Frag) (Q : VK) : XK := fun cls d H' => cls = .ref (He.ga K "BadPiece") ∧ ∃ dd, d = some dd ∧ H' dd = some (.xd [("part", .str "piece")]) ∧ ∀ x H2, G.Kp H' H2 → H2 x = some (.tup [.str "piece", .str "piece"]) → Q (.ref x) H2
/-- heard(lambda: ..): a refusal is told -/
def TTh (K : PySem.W.Frag) : (XK → Hp → VK → Prop) → Hp → VK → Prop := fun tl H Q => ∀ H1, G.Kp H H1 → ∀ R : VK, tl (Eh K Q) H1 R
theorem st_TTh {tl : XK → Hp → VK → Prop} (q : ∀ H1, G.Kp H H1 → ∀ R : VK, tl (Eh K Q) H1 R) : TTh K tl H Q := q
theorem eh_p (z : ∀ x H2, G.Kp H H2 → H2 x = some (.tup [.str "piece", .str "piece"]) → Q (.ref x) H2) : XPc K (Eh K Q) H := fun d H' k e => ⟨rfl, d, rfl, e, fun x H2 k2 e2 => z x H2 (k.trans k2) e2⟩
theorem lkP {x : V} : List.lookup ("part" : Str) ([("part", x)] : List (Str × V)) = some x := by simp [List.lookup]
theorem is_V {C D : Addr} {fs : List (Str × V)} {bb : Bool} {X : List V → Hp → VK → Prop} (h : G.Caught K H C fs v) (e : PySem.W.kitOne K (.ref C) (.ref D) = some bb) (q : Q (.bl bb) H) : G.cOr X (G.rIsV K) [v, .ref D] H Q := .inr (G.isV_cl h e q)
theorem is_VT {C : Addr} {n : String} {fs : List (Str × V)} {bb : Bool} {X : List V → Hp → VK → Prop} (h : G.Caught K H C fs v) (e : PySem.W.kitOne K (.ref C) (.type n) = some bb) (q : Q (.bl bb) H) : G.cOr X (G.rIsV K) [v, .ty n] H Q := .inr (G.isV h (.ty n) e q)
theorem xfV_var {C : Addr} {fs : List (Str × V)} {g : Str} {σ : L2.St} {i : Nat} {x v : V} (hs : σ[i]? = some (some x)) (h : G.Caught K H C fs x) (hno : PySem.W.findIn K (.ref C) g = some none) (l : fs.lookup g = some v) (q : Q v H) : G.tXfV K g (tVar i) σ H Q := ⟨x, hs, C, fs, v, h, hno, l, q⟩
theorem caught_md {C l : Addr} {fs : List (Str × V)} (m : G.Md l H H') (h : G.Caught K H C fs v) : G.Caught K H' C fs v := by
  obtain ⟨a, dd, e, h1, h2, F⟩ := h
  obtain ⟨xs, hl⟩ := m.was
  refine ⟨a, dd, e, m.all _ _ (fun z => ?_) h1, m.all _ _ (fun z => ?_) h2, F⟩
  · rw [z, hl] at h1
    cases h1
  · rw [z, hl] at h2
    cases h2
theorem gives_law_heard {X : Cx} {k : Nat} {cdv : Value} {q : Str} (T : Tx X.K X.mg) : G.GivesG X k ["_law_ask", "_law_caught", "error", "_law_found"] "_law_heard" (defScope s_law_heard) (a_law_heard X.K) cdv (defBody s_law_heard) "_law_ask" q (TTh X.K) := by
  intro f c' s H Q tl hr act hc h
  refine ⟨_, (pss_cons (ps_set (i := 1) sc_law_heard.nd rfl (Or.inl rfl) pe_non)
    (pss_cons (G.ps_try_v rfl rfl rfl sc_law_heard.nd G.takes_no (fun W pn xe tk po => (pss_one (ps_ret (pe_lst (pa_cons (G.pe_actW (fun E hW => act W pn xe E _ _ tk hW)) pa_nil))))) (.keep (i := 2) ⟨rfl, by decide, .inl (gl_FifthError T)⟩ rfl rfl (fun _ _ _ _ _ hz hf => (pss_one (ps_set (i := 1) sc_law_heard.nd rfl (Or.inl rfl) (pv 2)))) .nil))
    (pss_cons (ps_set (i := 3) sc_law_heard.nd rfl (Or.inl rfl) (pe_lst pa_nil))
    (pss_cons (ps_if (pt_val (pe_callB (G.callOr G.call_isiG (G.call_isVK (K := X.K) (by rfl))) (by rfl) (fr_isinstance T) boot_isinstance (pa_cons (pv 1) (pa_cons (G.pe_cl rfl (gl_BadPiece T)) pa_nil)))) (pss_one (ps_expr (pe_bm PySem.F.plainAttrs_list PySem.F.slot_list_append PySem.F.type_list_append mt_append (pv 3) (pa_cons (pe_tup (pa_cons pe_str (pa_cons (G.pe_xfVK (K := X.K) (by rfl) (pv 1)) pa_nil))) pa_nil)))) pss_nil)
    (pss_one (ps_ret (pe_ifExp (PW.pt (pw_and (pt_cmpR (G.op_eqG hr.units) (pe_callB G.call_lenG (by rfl) (fr_len T) PySem.boot_len (pa_cons (pv 3) pa_nil)) pe_int (nomark _)) (pw_and1 (pt_val (pe_callB (G.callOr G.call_isiG (G.call_isVK (K := X.K) (by rfl))) (by rfl) (fr_isinstance T) boot_isinstance (pa_cons (pv 1) (pa_cons (G.pe_ty (by rfl) (fr_ValueError T) boot_ValueError) pa_nil))))))) (pe_ix ix_seq (pv 3) pe_int (fun _ _ => rfl)) (pe_tup (pa_cons pe_str pa_nil))))))))), ?_⟩
  walk_at "start"
  walk_at "gos"
  refine ⟨Eh X.K Q, fun cls d σ' H' e => ?_, rfl, hc, h _ G.Kp.refl _⟩
  obtain ⟨rfl, dd, rfl, ed, e3⟩ := e
  refine ⟨true, em_BadPiece_FifthError T, fun _ a0 ha hl => ?_, fun z => nomatch z⟩
  match σ', hl with
  | [s0, s1, s2, s3], _ =>
    unfold G.clRun G.tsK
    dsimp only
    walk_at "gos"
    intro _
    have c3 := G.Caught.new (exv_BadPiece T) ha ed
    have k3 := G.Kp.new (o := G.ExV (.ref (He.ga X.K "BadPiece")) (some dd) a0) ha
    revert c3 k3
    generalize upd H' a0 (G.ExV (.ref (He.ga X.K "BadPiece")) (some dd) a0) = H3
    intro c3 k3
    walk_at "gos"
    rename_i ls H4 n4 k4 e4
    have c4 := c3.kp k4
    refine is_V c4 (ki_BadPiece_BadPiece T) ?_
    walk_at "gos"
    refine xfV_var rfl c4 (nof_BadPiece_part T) lkP ?_
    walk_at "gos"
    rename_i tp H5 n5 k5 e5
    refine append_lz (k5 _ _ e4) (by decide) rfl fun H6 m6 e6 => ?_
    walk_at "gos"
    have c6 := caught_md m6 (c4.kp k5)
    have f6 := m6.tup e5
    rw [if_pos (by simp)]
    walk_at "gos"
    refine is_VT c6 (kb_BadPiece_ValueError T) ?_
    walk_at "gos"
    exact e3 _ _ ((k3.trans (k4.trans k5)).md_new m6 (k3.back n4)) f6
end
end Lw

-- k92: behind what a call tells
local macro_rules | `(tactic| walk_at "g") => `(tactic| ((with_reducible refine Lw.append_lz (xs := ?z0) (zs := ?z1) ?h ?l ?e ?_); (case h => walk_at "hp"); (case l => (simp only [List.length_cons, List.length_nil]; omega)); (case e => (simp only [List.cons_append, List.nil_append]; rfl)); intro _ _ _))
local macro_rules | `(tactic| walk_at "gx") => `(tactic| with_reducible refine Lw.st_TTh ?_)

namespace Lw
open PySem PySem.Spec PyProof.Rows L2 PySem.NumText TL
/-! ### k92: a value near an order -/
theorem tl_from : ∀ (ts : List Str) (k : Nat) (s : Str), ∃ r, tl (textFrom k s ts) = tl s ++ r
  | [], _, _ => ⟨[], (List.append_nil _).symm⟩
  | t :: r, k, s => by
    obtain ⟨u, e⟩ := tl_from r (k + 1) (s ++ ((if k > 0 then ", " else "" : String) : Str) ++ t)
    refine ⟨tl ((if k > 0 then ", " else "" : String) : Str) ++ tl t ++ u, ?_⟩
    show tl (textFrom (k + 1) (s ++ ((if k > 0 then ", " else "" : String) : Str) ++ t) r) = _
    rw [e, tl_app, tl_app, List.append_assoc, List.append_assoc, List.append_assoc]
theorem tl_lst (xs : List PyData) : ∃ r, tl (PyData.shown (.list xs)) = 91 :: r := by
  obtain ⟨r, e⟩ := tl_from (PyData.shownAll xs) 0 "["
  refine ⟨r ++ tl "]", ?_⟩
  show tl (textFrom 0 "[" (PyData.shownAll xs) ++ "]") = _
  rw [tl_app, e, show tl ("[" : Str) = [91] by decide +kernel]
  rfl
/-- a short part -/
structure Part (e : PyData) : Prop where
  sh : e.showable = true
  nd : e.hasDict = false
  ls : e.leavesShort 1921 = true
  bk : e.bulk ≤ 20
  dp : e.depth ≤ 3
theorem Sh.cons {ds : List PyData} {m d : Nat} {e : PyData} (p : Part e) (h : Sh ds m d) (l : 3 ≤ d) : Sh (e :: ds) (m + 21) d := by
  obtain ⟨h1, h2, h3, h4, h5⟩ := h
  obtain ⟨g1, g2, g3, g4, g5⟩ := p
  refine ⟨?_, ?_, ?_, ?_, ?_⟩
  · simp only [PyData.showableAll, h1, g1, Bool.and_true]
  · simp only [PyData.hasDictAll, h2, g2, Bool.or_false]
  · simp only [PyData.leavesShortAll, h3, g3, Bool.and_true]
  · simp only [PyData.bulkAll]; omega
  · simp only [PyData.depthAll]; omega
theorem Sh.up {ds : List PyData} {m d m' d' : Nat} (h : Sh ds m d) (l : m ≤ m') (g : d ≤ d') : Sh ds m' d' := ⟨h.sh, h.nd, h.ls, Nat.le_trans h.bk l, Nat.le_trans h.dp g⟩
theorem Sh.pre {ds : List PyData} {m d : Nat} (h : Sh ds m d) : ∀ {ns : List Int}, (∀ n ∈ ns, G.Bd 200 n) → Sh (ns.map PyData.int ++ ds) (m + ns.length) d
  | [], _ => h
  | n :: r, b => .int (b n (List.mem_cons_self ..)) (Sh.pre h fun x hx => b x (List.mem_cons_of_mem _ hx))
section
variable {K : PySem.W.Frag} {H H' : Hp} {Q : VK} {E : XK} {v : V} {t : Addr} {os ns ms : List Int} {xs ys : List V} {as bs : List Bool} {ds es : List PyData} {e : PyData} {c : Nat}
theorem dp_pre (h2 : DpAll K H ys es) : ∀ ns : List Int, DpAll K H (inZ ns ++ ys) (ns.map PyData.int ++ es)
  | [] => h2
  | n :: r => .cons (.int n) (dp_pre h2 r)
theorem elt_app (lx : xs.length = as.length) (h1 : ∀ (i : Nat) (v : V) (b : Bool), xs[i]? = some v → as[i]? = some b → Elt H v b) (h2 : ∀ (i : Nat) (v : V) (b : Bool), ys[i]? = some v → bs[i]? = some b → Elt H v b) :
    ∀ (i : Nat) (v : V) (b : Bool), (xs ++ ys)[i]? = some v → (as ++ bs)[i]? = some b → Elt H v b := by
  intro i v b e1 e2
  rcases Nat.lt_or_ge i xs.length with g | g
  · rw [List.getElem?_append_left g] at e1
    rw [List.getElem?_append_left (by omega)] at e2
    exact h1 i v b e1 e2
  · rw [List.getElem?_append_right g] at e1
    rw [List.getElem?_append_right (by omega), ← lx] at e2
    exact h2 _ v b e1 e2
theorem elt_ints (ns : List Int) : ∀ (i : Nat) (v : V) (b : Bool), (inZ ns)[i]? = some v → (ns.map fun n => decide (-48 ≤ n ∧ n ≤ 48))[i]? = some b → Elt H v b := by
  intro i v b e1 e2
  rw [List.getElem?_map] at e1 e2
  cases hn : ns[i]? with
  | none => rw [hn] at e1; cases e1
  | some n =>
    rw [hn] at e1 e2
    cases e1
    cases e2
    exact .inl ⟨n, rfl, rfl⟩
/-- a tuple with one part that is no number -/
theorem sqe_odd (h : H t = some (.tup (inZ ns ++ v :: inZ ms))) (l : ns.length + ms.length ≤ 50) (el : Elt H v false) : ∃ bs, SqE H t (inZ ns ++ v :: inZ ms) bs ∧ bs.all id = false :=
  ⟨(ns.map fun n => decide (-48 ≤ n ∧ n ≤ 48)) ++ ([false] ++ ms.map fun n => decide (-48 ≤ n ∧ n ≤ 48)), ⟨.inr h, by simp; omega, by simp, elt_app (by simp) (elt_ints ns) (elt_app (xs := [v]) rfl (fun i u b e1 e2 => by
    match i, e1, e2 with
    | 0, e1, e2 => cases e1; cases e2; exact el) (elt_ints ms))⟩, by simp⟩
/-- a tuple of numbers, or none at all -/
def BentV (K : PySem.W.Frag) (H : Hp) (v : V) : Prop := (∃ (t : Addr) (os : List Int), v = .ref t ∧ H t = some (.tup (inZ os)) ∧ os.length ≤ 25 ∧ ∀ n ∈ os, G.Bd 8 n) ∨ (NoOrd H v ∧ NoTx K H v)
theorem BentV.kp (k : G.Kp H H') (h : BentV K H v) : BentV K H' v := h.imp (fun ⟨t, os, e, h, l, b⟩ => ⟨t, os, e, k _ _ h, l, b⟩) fun h => ⟨h.1.kp k, h.2.kp k⟩
/-- all but some lists is kept -/
structure Kx (S : Addr → Prop) (H H' : Hp) : Prop where
  was : ∀ a, S a → ∃ xs, H a = some (.lst xs)
  is : ∀ a, S a → ∃ xs, H' a = some (.lst xs)
  all : ∀ b o, ¬ S b → H b = some o → (z : G.nt o = true) → H' b = some o
theorem Kx.trans {S : Addr → Prop} {H1 H2 H3 : Hp} (h : Kx S H1 H2) (k : Kx S H2 H3) : Kx S H1 H3 := ⟨h.was, k.is, fun b o n e z => k.all b o n (h.all b o n e z) z⟩
theorem Kx.of_kp {S : Addr → Prop} (h : ∀ a, S a → ∃ xs, H a = some (.lst xs)) (k : G.Kp H H') : Kx S H H' := ⟨h, fun a s => let ⟨xs, e⟩ := h a s; ⟨xs, k _ _ e⟩, fun b o _ e z => k.all b o e z⟩
theorem Kx.of_md {S : Addr → Prop} {p : Addr} {ys : List V} (h : ∀ a, S a → ∃ xs, H a = some (.lst xs)) (sp : S p) (e : H' p = some (.lst ys)) (k : G.Md p H H') : Kx S H H' :=
  ⟨h, fun a s => by
    by_cases z : a = p
    · exact ⟨ys, z ▸ e⟩
    · obtain ⟨xs, e⟩ := h a s
      exact ⟨xs, k.all _ _ z e⟩, fun b o n e z => k.all b o (fun y => n (y ▸ sp)) e z⟩
theorem Kx.tup {S : Addr → Prop} (k : Kx S H H') (h : H t = some (.tup xs)) : H' t = some (.tup xs) :=
  k.all _ _ (fun s => by obtain ⟨zs, e⟩ := k.was t s; rw [e] at h; cases h) h rfl
theorem Kx.dK {S : Addr → Prop} {kvs : List (Key × V)} (k : Kx S H H') (h : H t = some (.dK kvs)) : H' t = some (.dK kvs) :=
  k.all _ _ (fun s => by obtain ⟨zs, e⟩ := k.was t s; rw [e] at h; cases h) h rfl
theorem Kx.lst {S : Addr → Prop} (k : Kx S H H') (h : H t = some (.lst xs)) (n : ¬ S t) : H' t = some (.lst xs) := k.all _ _ n h rfl
/-- whatever befalls some lists -/
def BentS (K : PySem.W.Frag) (S : Addr → Prop) (H : Hp) (v : V) : Prop := ∀ H2, Kx S H H2 → BentV K H2 v
theorem BentS.kx {S : Addr → Prop} (k : Kx S H H') (h : BentS K S H v) : BentS K S H' v := fun H2 k2 => h H2 (k.trans k2)
def sp_bent (K : PySem.W.Frag) : Sp := fun vs H Q _ => ∃ (S : Addr → Prop) (p l t r : Addr) (n : Nat) (os ns : List Int), vs = [.ref p, .ref t, .ref r] ∧ (∀ a, S a → ∃ xs, H a = some (.lst xs)) ∧ ¬ S r ∧ PenL H p l n ∧ n < 900000 ∧ H t = some (.tup (inZ os)) ∧ H r = some (.lst (inZ ns)) ∧ r ≠ p ∧ os.length ≤ 21 ∧ os ≠ [] ∧ (∀ x ∈ os, G.Bd 8 x) ∧ ns.length ≤ 20 ∧ (∀ x ∈ ns, G.Bd 8 x) ∧
  ∀ v H', G.Md p H H' → PenL H' p l (n + 3) → BentS K S H' v → Q v H'
theorem cut_mem (lo hi : Option Int) (os : List Int) : ∃ zs : List Int, cutV (inZ os) lo hi = inZ zs ∧ zs.length ≤ os.length ∧ ∀ n ∈ zs, n ∈ os := by
  rw [cutV, ← List.map_drop, ← List.map_take]
  exact ⟨_, rfl, by rw [List.length_take, List.length_drop]; omega, fun n h => List.mem_of_mem_drop (List.mem_of_mem_take h)⟩
theorem sl_o {lo hi : Option Int} (h : H t = some (.tup (inZ os))) (q : ∀ (y : Addr) (H' : Hp) (zs : List Int), G.Kp H H' → H' y = some (.tup (inZ zs)) → zs.length = min (HT.sIx os.length os.length hi - HT.sIx os.length 0 lo) (os.length - HT.sIx os.length 0 lo) → (∀ n ∈ zs, n ∈ os) → Q (.ref y) H') : rSlA K (.ref t) lo hi H Q :=
  G.sl_h h fun y H' k e => by
    rw [cutV, List.length_map, ← List.map_drop, ← List.map_take] at e
    exact q y H' _ k e (by rw [List.length_take, List.length_drop]) fun n h => List.mem_of_mem_drop (List.mem_of_mem_take h)
theorem cat_o {a b : Addr} (h1 : H a = some (.tup (inZ ns))) (h2 : H b = some (.tup (inZ ms))) (l : ns.length + ms.length ≤ 60) (q : ∀ y H', G.Kp H H' → H' y = some (.tup (inZ (ns ++ ms))) → Q (.ref y) H') : G.rOr (G.rAddG K) (rCatA K) (.ref a) (.ref b) H Q :=
  .inr (G.cat_h h1 h2 (by rw [List.length_map, List.length_map, sizeLine_eq]; omega) fun p H' k e => q p H' k (by rw [inZ, List.map_append]; exact e))
theorem cat_v {a b : Addr} (h1 : H a = some (.tup xs)) (h2 : H b = some (.tup ys)) (l : xs.length + ys.length ≤ 60) (q : ∀ y H', G.Kp H H' → H' y = some (.tup (xs ++ ys)) → Q (.ref y) H') : G.rOr (G.rAddG K) (rCatA K) (.ref a) (.ref b) H Q :=
  .inr (G.cat_h h1 h2 (by rw [sizeLine_eq]; omega) fun p H' k e => q p H' k e)
theorem ix_n (n d m : Nat) : HT.sIx n d (some (m : Int)) = min m n := HT.sIx_nat ..
theorem ix_1 (n d m : Nat) : HT.sIx n d (some ((m : Int) + 1)) = min (m + 1) n := HT.sIx_nat ..
theorem ix_2 (n d m : Nat) : HT.sIx n d (some ((m : Int) + 2)) = min (m + 2) n := HT.sIx_nat ..
theorem ix_o (n d : Nat) : HT.sIx n d (some 1) = min 1 n := HT.sIx_nat ..
theorem ix_0 (n d : Nat) : HT.sIx n d none = d := rfl
theorem bent_t (h : H t = some (.tup (inZ os))) (l : os.length ≤ 25) (b : ∀ n ∈ os, G.Bd 8 n) : BentV K H (.ref t) := .inl ⟨t, os, rfl, h, l, b⟩
theorem notx_d {D : PyData} (h : ∀ H', G.Kp H H' → Dp K H' v D) (s : ShowOk D) (n : ∀ os : List Int, D.shown ≠ PyData.shown (.tuple (os.map PyData.int))) : NoTx K H v := ⟨_, fc_d h s.1 s.2.1 s.2.2.1 s.2.2.2, n⟩
theorem bent_l (h : H t = some (.lst (inZ os))) (l : os.length ≤ 25) (b : ∀ n ∈ os, G.Bd 8 n) : BentV K H (.ref t) :=
  .inr ⟨.inl (.inl ⟨_, .lst h, by decide⟩), notx_d (D := .list (os.map PyData.int)) (fun H' k => .lst (.of (k _ _ h)) (dpZ os)) ((Sh.ints fun n hn => (b n hn).mono (by decide)).ok_l (by omega) (by decide)) fun zs e => by
    obtain ⟨r, e2⟩ := tl_lst (os.map PyData.int)
    exact tup_hd zs e2 (by decide) e⟩
theorem bent_odd (h : H t = some (.tup (inZ ns ++ v :: inZ ms))) (l : ns.length + ms.length ≤ 50) (b1 : ∀ n ∈ ns, G.Bd 8 n) (b2 : ∀ n ∈ ms, G.Bd 8 n) (el : Elt H v false) (d : ∀ H', G.Kp H H' → Dp K H' v e) (p : Part e) (hc : c ∈ tl e.shown) (bad : c ≠ 32 ∧ c ≠ 41 ∧ ¬ (44 ≤ c ∧ c ≤ 57)) : BentV K H (.ref t) := by
  obtain ⟨bs, s1, s2⟩ := sqe_odd h l el
  refine .inr ⟨.inr ⟨t, _, bs, rfl, h, s1, s2⟩, notx_d (D := .tuple (ns.map PyData.int ++ e :: ms.map PyData.int)) (fun H' k => .tup (.of (k _ _ h)) (dp_pre (.cons (d H' k) (dpZ ms)) ns)) ?_ fun zs => tup_odd zs (List.mem_append_right _ (List.mem_cons_self ..)) hc bad⟩
  have s := Sh.ints (ns := ms) fun n hn => (b2 n hn).mono (by decide)
  exact ((s.up (m' := ms.length) (d' := 3) (Nat.le_refl _) (by decide)).cons p (by decide)).pre (fun n hn => (b1 n hn).mono (by decide)) |>.ok_t (by omega) (by decide)
theorem bent_n (h : NoSq H v) (d : ∀ H', G.Kp H H' → Dp K H' v e) (s : ShowOk e) {r : List Nat} (hd : tl e.shown = c :: r) (bad : c ≠ 40) : BentV K H v :=
  .inr ⟨.inl (h.imp (fun ⟨ty, o, _, n⟩ => ⟨ty, o, n⟩) id), notx_d d s fun zs => tup_hd zs hd bad⟩
theorem bent_d {a : Addr} (h : H a = some (.dK [])) : BentV K H (.ref a) := .inr ⟨.inl (.inl ⟨_, .dct h, by decide⟩), _, fc_0 h, fun zs => tup_hd (c := 123) (r := [125]) zs (by decide +kernel) (by decide)⟩
end
section
variable {P : Program} [hP : G.SupP P "/claim/cut.py"] {w : World} {K : PySem.W.Frag} {mg : Str → Option Value} {base : Heap}
theorem ok_law_bent_order (T : Tx K mg) : G.FnG P w K mg base CX0 4 (a_law_bent_order K) (G.fdOf K (a_law_bent_order K)) ["_law_pen_here", "_law_order_here", "_law_some"] (sp_bent K) := by
  refine G.ok_of (F_law_bent_order T) sc_law_bent_order (fun vs H Q E h => ?_) (fun cdv A outer s H vs Q E hr h => ?_)
  · obtain ⟨S, p, l, t, r, n, os, ns, rfl, _⟩ := h
    rfl
  · obtain ⟨S, p, l, t, r, n, os, ns, rfl, hS, hSr, hp, hn, ht, hr0, rp, lo, ne, ob, ln, nb, k⟩ := h
    obtain ⟨ys, hys⟩ := hp.is
    refine ⟨_, (pss_cons (ps_par (i := 3) (j := 4) (by rfl) sc_law_bent_order.nd rfl rfl (by decide) rfl rfl (pa_cons (G.pe_callG (ok_law_draw T) (hr.mono (by first | decide | omega)) rfl (gl_law_draw T) (F_law_draw T).kp (bi_law_draw T) .nil pass0 (pa_cons (pv 0) (pa_cons (pe_callB G.call_lenG (by rfl) (fr_len T) PySem.boot_len (pa_cons (pv 1) pa_nil)) pa_nil))) (pa_cons (G.pe_callG (ok_law_draw T) (hr.mono (by first | decide | omega)) rfl (gl_law_draw T) (F_law_draw T).kp (bi_law_draw T) .nil pass0 (pa_cons (pv 0) (pa_cons pe_int pa_nil))) pa_nil)) (by rfl))
    (pss_cons (ps_if (pt_cmpR (G.op_eqG hr.units) (pv 4) pe_int (nomark _)) (pss_one (ps_ret (pe_callTy G.call_listG (by rfl) (fr_list T) boot_list (pa_cons (pv 1) pa_nil)))) pss_nil)
    (pss_cons (ps_if (pt_cmpR (G.op_eqG hr.units) (pv 4) pe_int (nomark _)) (pss_one (ps_ret (pe_op (G.opOr G.op_addG op_catA) (pe_slice sl_tupA (pv 1) po_none (po_some (pv 3))) (pe_slice sl_tupA (pv 1) (po_some (pe_op (G.opOr G.op_addG op_catA) (pv 3) pe_int)) po_none)))) pss_nil)
    (pss_cons (ps_if (pt_cmpR (G.op_eqG hr.units) (pv 4) pe_int (nomark _)) (pss_one (ps_ret (pe_op (G.opOr G.op_addG op_catA) (pe_slice sl_tupA (pv 1) (po_some (pv 3)) po_none) (pe_slice sl_tupA (pv 1) po_none (po_some (pv 3)))))) pss_nil)
    (pss_cons (ps_if (pt_cmpR (G.op_eqG hr.units) (pv 4) pe_int (nomark _)) (pss_one (ps_ret (pe_op (G.opOr G.op_addG op_catA) (pe_slice sl_tupA (pv 1) po_none (po_some pe_int)) (G.pe_revT (K := K) rfl (pe_slice sl_tupA (pv 1) (po_some pe_int) po_none))))) pss_nil)
    (pss_cons (ps_if (pt_cmpR (G.op_eqG hr.units) (pv 4) pe_int (nomark _)) (pss_one (ps_ret (pe_op (G.opOr G.op_addG op_catA) (pv 1) (pe_slice sl_tupA (pv 1) (po_some (pv 3)) (po_some (pe_op (G.opOr G.op_addG op_catA) (pv 3) pe_int)))))) pss_nil)
    (pss_cons (ps_if (pt_cmpR (G.op_eqG hr.units) (pv 4) pe_int (nomark _)) (pss_one (ps_ret (pe_op (G.opOr G.op_addG op_catA) (pe_op (G.opOr G.op_addG op_catA) (pe_slice sl_tupA (pv 1) po_none (po_some (pv 3))) (pe_tup (pa_cons (G.pe_callG (ok_law_pick T) (hr.mono (by first | decide | omega)) rfl (gl_law_pick T) (F_law_pick T).kp (bi_law_pick T) .nil pass0 (pa_cons (pv 0) (pa_cons (pe_lst (pa_cons pe_non (pa_cons pe_bl (pa_cons pe_str (pa_cons pe_int (pa_cons pe_int (pa_cons (pe_tup (pa_cons pe_int pa_nil)) pa_nil))))))) pa_nil))) pa_nil))) (pe_slice sl_tupA (pv 1) (po_some (pe_op (G.opOr G.op_addG op_catA) (pv 3) pe_int)) po_none)))) pss_nil)
    (pss_cons (ps_if (pt_cmpR (G.op_eqG hr.units) (pv 4) pe_int (nomark _)) (pss_cons (ps_set (i := 5) sc_law_bent_order.nd rfl (Or.inl rfl) (G.pe_revT (K := K) rfl (pe_slice sl_tupA (pv 1) (po_some (pv 3)) (po_some (pe_op (G.opOr G.op_addG op_catA) (pv 3) pe_int)))))
    (pss_one (ps_ret (pe_op (G.opOr G.op_addG op_catA) (pe_op (G.opOr G.op_addG op_catA) (pe_slice sl_tupA (pv 1) po_none (po_some (pv 3))) (pv 5)) (pe_slice sl_tupA (pv 1) (po_some (pe_op (G.opOr G.op_addG op_catA) (pv 3) pe_int)) po_none))))) pss_nil)
    (pss_cons (ps_if (pt_cmpR (G.op_eqG hr.units) (pv 4) pe_int (nomark _)) (pss_one (ps_ret (G.pe_callG (ok_law_pick T) (hr.mono (by first | decide | omega)) rfl (gl_law_pick T) (F_law_pick T).kp (bi_law_pick T) .nil pass0 (pa_cons (pv 0) (pa_cons (pe_lst (pa_cons pe_non (pa_cons (pe_tup pa_nil) (pa_cons pe_int (pa_cons pe_str (pa_cons L2.pe_dnewK (pa_cons (pe_callTy G.call_tupG (by rfl) (fr_tuple T) boot_tuple (pa_cons (pv 2) pa_nil)) (pa_cons (pv 2) pa_nil)))))))) pa_nil))))) pss_nil)
    (pss_one (ps_ret (pv 1)))))))))))), ?_⟩
    walk_at "start"
    walk_at "gos"
    have lz : (inZ os).length = os.length := List.length_map ..
    have l1 : 1 ≤ os.length := Nat.pos_of_ne_zero fun z => ne (List.eq_nil_of_length_eq_zero z)
    refine draw_p hp (by omega) (by rw [lz]; omega) (by rw [lz]; exact (G.Bd.of_le (G.Bd.lit 21) (by omega)).mono (by decide)) fun e H1 m1 p1 e0 e9 => ?_
    rw [lz] at e9
    have ht1 : H1 t = some (.tup (inZ os)) := m1.tup ht
    have hr1 : H1 r = some (.lst (inZ ns)) := m1.lst hr0 rp
    have be : G.Bd 8 e := (G.Bd.of_le (G.Bd.lit 21) (by omega)).mono (by decide)
    walk_at "gos"
    rename_i way H2 m2 p2 w0 w9
    have M2 := m1.trans m2
    have ht2 : H2 t = some (.tup (inZ os)) := m2.tup ht1
    have hr2 : H2 r = some (.lst (inZ ns)) := m2.lst hr1 rp
    obtain ⟨m, rfl⟩ : ∃ m : Nat, e = (m : Int) := ⟨e.toNat, by omega⟩
    have ml : m < os.length := by omega
    have hS2 : ∀ a, S a → ∃ xs, H2 a = some (.lst xs) := fun a sa => by
      by_cases z : a = p
      · obtain ⟨zs, hz⟩ := p2.is
        exact ⟨zs, z ▸ hz⟩
      · obtain ⟨xs, e⟩ := hS a sa
        exact ⟨xs, M2.lst e z⟩
    by_cases c0 : way = 0
    · refine ifdT c0 ?_
      walk_at "gos"
      rename_i q H3 n3 k3 e3
      exact k _ _ (M2.kp_r k3) ((p2.kp k3).mono (by omega)) fun _ kx => bent_l (kx.lst e3 (fun sq => by obtain ⟨_, z⟩ := hS2 _ sq; rw [n3] at z; cases z)) (by omega) ob
    refine ifdF c0 ?_
    walk_at "gos"
    by_cases c1 : way = 1
    · refine ifdT c1 ?_
      walk_at "gos"
      refine sl_o ht2 fun y1 H3 z1 k3 e3 l3 m3 => ?_
      walk_at "gos"
      refine sl_o (k3 _ _ ht2) fun y2 H4 z2 k4 e4 l4 m4 => ?_
      walk_at "gos"
      simp only [ix_n, ix_1, ix_2, ix_o, ix_0] at l3 l4
      refine cat_o (k4 _ _ e3) e4 (by omega) fun y5 H5 k5 e5 => ?_
      have K5 := k3.trans (k4.trans k5)
      refine k _ _ (M2.kp_r K5) ((p2.kp K5).mono (by omega)) fun _ kx => (bent_t (kx.tup e5) (by rw [List.length_append]; omega) fun n hn => ?_)
      exact (List.mem_append.mp hn).elim (fun h => ob n (m3 n h)) fun h => ob n (m4 n h)
    refine ifdF c1 ?_
    walk_at "gos"
    by_cases c2 : way = 2
    · refine ifdT c2 ?_
      walk_at "gos"
      refine sl_o ht2 fun y1 H3 z1 k3 e3 l3 m3 => ?_
      walk_at "gos"
      refine sl_o (k3 _ _ ht2) fun y2 H4 z2 k4 e4 l4 m4 => ?_
      walk_at "gos"
      simp only [ix_n, ix_1, ix_2, ix_o, ix_0] at l3 l4
      refine cat_o (k4 _ _ e3) e4 (by omega) fun y5 H5 k5 e5 => ?_
      have K5 := k3.trans (k4.trans k5)
      refine k _ _ (M2.kp_r K5) ((p2.kp K5).mono (by omega)) fun _ kx => (bent_t (kx.tup e5) (by rw [List.length_append]; omega) fun n hn => ?_)
      exact (List.mem_append.mp hn).elim (fun h => ob n (m3 n h)) fun h => ob n (m4 n h)
    refine ifdF c2 ?_
    walk_at "gos"
    by_cases c3 : way = 3
    · refine ifdT c3 ?_
      walk_at "gos"
      refine sl_o ht2 fun y1 H3 z1 k3 e3 l3 m3 => ?_
      refine G.st_revT ?_
      walk_at "gos"
      refine sl_o (k3 _ _ ht2) fun y2 H4 z2 k4 e4 l4 m4 => ?_
      refine G.revTK (SqT.of e4) (zs := inZ z2.reverse) List.map_reverse.symm fun y5 H5 n5 k5 e5 => ?_
      walk_at "gos"
      simp only [ix_n, ix_1, ix_2, ix_o, ix_0] at l3 l4
      refine cat_o (k5 _ _ (k4 _ _ e3)) e5 (by rw [List.length_reverse]; omega) fun y6 H6 k6 e6 => ?_
      have K5 := k3.trans (k4.trans (k5.trans k6))
      refine k _ _ (M2.kp_r K5) ((p2.kp K5).mono (by omega)) fun _ kx => (bent_t (kx.tup e6) (by rw [List.length_append, List.length_reverse]; omega) fun n hn => ?_)
      exact (List.mem_append.mp hn).elim (fun h => ob n (m3 n h)) fun h => ob n (m4 n (List.mem_reverse.mp h))
    refine ifdF c3 ?_
    walk_at "gos"
    by_cases c4 : way = 4
    · refine ifdT c4 ?_
      walk_at "gos"
      refine sl_o ht2 fun y1 H3 z1 k3 e3 l3 m3 => ?_
      simp only [ix_n, ix_1, ix_2, ix_o, ix_0] at l3
      refine cat_o (k3 _ _ ht2) e3 (by omega) fun y5 H5 k5 e5 => ?_
      have K5 := k3.trans k5
      refine k _ _ (M2.kp_r K5) ((p2.kp K5).mono (by omega)) fun _ kx => (bent_t (kx.tup e5) (by rw [List.length_append]; omega) fun n hn => ?_)
      exact (List.mem_append.mp hn).elim (ob n) fun h => ob n (m3 n h)
    refine ifdF c4 ?_
    walk_at "gos"
    by_cases c5 : way = 5
    · refine ifdT c5 ?_
      walk_at "gos"
      refine sl_o ht2 fun y1 H3 z1 k3 e3 l3 m3 => ?_
      have p3 := p2.kp k3
      walk_at "gos"
      rename_i tp H4 n4 k4 e4 ml0 H5 n5 k5 e5 v H6 hv m6 p6 y7 H7 n7 k7 e7
      have ht6 : H6 t = some (.tup (inZ os)) := m6.tup ((k3.trans (k4.trans k5)) _ _ ht2)
      have e3' : H7 y1 = some (.tup (inZ z1)) := k7 _ _ (m6.tup ((k4.trans k5) _ _ e3))
      have f4 : H7 tp = some (.tup [.int 0]) := k7 _ _ (m6.tup (k5 _ _ e4))
      refine cat_v e3' e7 (by rw [List.length_map]; simp only [ix_n, ix_0] at l3; simp; omega) fun y8 H8 k8 e8 => ?_
      walk_at "gos"
      refine sl_o (k8 _ _ (k7 _ _ ht6)) fun y9 H9 z9 k9 e9 l9 m9 => ?_
      simp only [ix_n, ix_1, ix_2, ix_o, ix_0] at l3 l9
      refine cat_v (k9 _ _ e8) e9 (by rw [List.length_append, List.length_map, List.length_map]; simp; omega) fun y10 H10 k10 e10 => ?_
      rw [List.append_assoc, List.singleton_append] at e10
      have K5 := k3.trans (k4.trans k5)
      have K8 := k7.trans (k8.trans (k9.trans k10))
      have f4' : H10 tp = some (.tup [.int 0]) := (k8.trans (k9.trans k10)) _ _ f4
      have ob1 : ∀ n ∈ z1, G.Bd 8 n := fun n h => ob n (m3 n h)
      have ob2 : ∀ n ∈ z9, G.Bd 8 n := fun n h => ob n (m9 n h)
      refine k _ _ (((M2.kp_r K5).trans m6).kp_r K8) ((p6.kp K8).mono (by omega)) fun HZ kx => ?_
      replace e10 := kx.tup e10
      replace f4' := kx.tup f4'
      have odd : ∀ (e : PyData) (c : Nat), Elt HZ v false → (∀ H', G.Kp HZ H' → Dp K H' v e) → Part e → c ∈ tl e.shown → (c ≠ 32 ∧ c ≠ 41 ∧ ¬ (44 ≤ c ∧ c ≤ 57)) → BentV K HZ (.ref y10) := fun e c el d p hc bad => bent_odd e10 (by omega) ob1 ob2 el d p hc bad
      have int : ∀ i : Int, v = .int i → G.Bd 8 i → BentV K HZ (.ref y10) := fun i ei bi => by
        subst ei
        refine bent_t (os := z1 ++ i :: z9) (by rw [inZ, List.map_append]; exact e10) (by rw [List.length_append, List.length_cons]; omega) fun n hn => ?_
        rcases List.mem_append.mp hn with h | h
        · exact ob1 n h
        · rcases List.mem_cons.mp h with rfl | h
          · exact bi
          · exact ob2 n h
      simp only [List.mem_cons, List.not_mem_nil, or_false] at hv
      rcases hv with rfl | rfl | rfl | rfl | rfl | rfl
      · exact odd .none 78 (.inr ⟨⟨_, .non⟩, rfl⟩) (fun _ _ => .non) ⟨by decide +kernel, by decide +kernel, by decide +kernel, by decide +kernel, by decide +kernel⟩ (by decide +kernel) (by decide)
      · exact odd (.bool true) 84 (.inr ⟨⟨_, .bl _⟩, rfl⟩) (fun _ _ => .bl _) ⟨by decide +kernel, by decide +kernel, by decide +kernel, by decide +kernel, by decide +kernel⟩ (by decide +kernel) (by decide)
      · exact odd (.str "0") 39 (.inr ⟨⟨_, .str _⟩, rfl⟩) (fun _ _ => .str _) ⟨by decide +kernel, by decide +kernel, by decide +kernel, by decide +kernel, by decide +kernel⟩ (by decide +kernel) (by decide)
      · exact int _ rfl ((G.Bd.lit _).mono (by decide))
      · exact int _ rfl ((G.Bd.lit _).mono (by decide))
      · exact odd (.tuple [.int 0]) 40 (.inr ⟨⟨_, .tup f4'⟩, rfl⟩) (fun _ k => .tup (.of (k _ _ f4')) (.cons (.int _) .nil)) ⟨by decide +kernel, by decide +kernel, by decide +kernel, by decide +kernel, by decide +kernel⟩ (by decide +kernel) (by decide)
    refine ifdF c5 ?_
    walk_at "gos"
    by_cases c6 : way = 6
    · refine ifdT c6 ?_
      walk_at "gos"
      refine sl_o ht2 fun y1 H3 z1 k3 e3 l3 m3 => ?_
      refine G.revTK (SqT.of e3) (zs := inZ z1.reverse) List.map_reverse.symm fun y4 H4 n4 k4 e4 => ?_
      have ht4 := k4 _ _ (k3 _ _ ht2)
      walk_at "gos"
      refine sl_o ht4 fun y5 H5 z5 k5 e5 l5 m5 => ?_
      walk_at "gos"
      simp only [ix_n, ix_1, ix_2, ix_o, ix_0] at l3 l5
      refine cat_o e5 (k5 _ _ e4) (by rw [List.length_reverse]; omega) fun y6 H6 k6 e6 => ?_
      walk_at "gos"
      refine sl_o (k6 _ _ (k5 _ _ ht4)) fun y7 H7 z7 k7 e7 l7 m7 => ?_
      simp only [ix_n, ix_1, ix_2, ix_o, ix_0] at l7
      refine cat_o (k7 _ _ e6) e7 (by rw [List.length_append, List.length_reverse]; omega) fun y8 H8 k8 e8 => ?_
      have K5 := k3.trans (k4.trans (k5.trans (k6.trans (k7.trans k8))))
      refine k _ _ (M2.kp_r K5) ((p2.kp K5).mono (by omega)) fun _ kx => (bent_t (kx.tup e8) (by rw [List.length_append, List.length_append, List.length_reverse]; omega) fun n hn => ?_)
      rcases List.mem_append.mp hn with hn | hn
      · exact (List.mem_append.mp hn).elim (fun h => ob n (m5 n h)) fun h => ob n (m3 n (List.mem_reverse.mp h))
      · exact ob n (m7 n hn)
    refine ifdF c6 ?_
    walk_at "gos"
    by_cases c7 : way = 7
    · refine ifdT c7 ?_
      walk_at "gos"
      rename_i t0 H3 n3 k3 e3 d0 H4 n4 k4 e4 t2 H5 n5 k5 e5 ls H6 n6 k6 e6 v H7 hv m7 p7
      have K6 := k3.trans (k4.trans (k5.trans k6))
      have f0 : H7 t0 = some (.tup (inZ [])) := m7.tup ((k4.trans (k5.trans k6)) _ _ e3)
      have f1 : H7 d0 = some (.dK []) := m7.dK ((k5.trans k6) _ _ e4)
      have f2 : H7 t2 = some (.tup (inZ ns)) := m7.tup (k6 _ _ e5)
      have f3 : H7 r = some (.lst (inZ ns)) := m7.lst (K6 _ _ hr2) rp
      refine k _ _ ((M2.kp_r K6).trans m7) (p7.mono (by omega)) fun HZ kx => ?_
      replace f0 := kx.tup f0
      replace f1 := kx.dK f1
      replace f2 := kx.tup f2
      replace f3 := kx.lst f3 hSr
      simp only [List.mem_cons, List.not_mem_nil, or_false] at hv
      rcases hv with rfl | rfl | rfl | rfl | rfl | rfl | rfl
      · exact bent_n (e := .none) (c := 78) (.inl ⟨_, .non, by decide, by decide⟩) (fun _ _ => .non) ⟨by decide +kernel, by decide +kernel, by decide +kernel, by decide +kernel⟩ (r := [111, 110, 101]) (by decide +kernel) (by decide)
      · exact bent_t f0 (by decide) (fun _ h => nomatch h)
      · exact bent_n (e := .int 0) (c := 48) (.inr ⟨0, rfl⟩) (fun _ _ => .int _) ⟨by decide +kernel, by decide +kernel, by decide +kernel, by decide +kernel⟩ (r := []) (by decide +kernel) (by decide)
      · exact bent_n (e := .str "order") (c := 39) (.inl ⟨_, .str _, by decide, by decide⟩) (fun _ _ => .str _) ⟨by decide +kernel, by decide +kernel, by decide +kernel, by decide +kernel⟩ (r := [111, 114, 100, 101, 114, 39]) (by decide +kernel) (by decide)
      · exact bent_d f1
      · exact bent_t f2 (by omega) nb
      · exact bent_l f3 (by omega) nb
    refine ifdF c7 ?_
    walk_at "gos"
    exact k _ _ M2 (p2.mono (by omega)) fun _ kx => bent_t (kx.tup ht2) (by omega) ob
end
end Lw

namespace Lw
open PySem PySem.Spec PyProof.Rows L2
/-! ### k92: values of other kinds -/
section
variable {K : PySem.W.Frag} {H H' : Hp} {Q : VK} {E : XK} {v : V}
def sp_kinds (K : PySem.W.Frag) (P : Addr) : Sp := fun vs H Q _ => ∃ (p l x t : Addr) (n : Nat) (a b c d : Int) (os : List Int), vs = [.ref p, .ref x, .ref t] ∧ PenL H p l n ∧ n < 900000 ∧ IsK K H x a b c d ∧ H t = some (.tup (inZ os)) ∧ os.length ≤ 25 ∧ (∀ m ∈ os, G.Bd 8 m) ∧ G.TabP H P ∧ ∀ H', G.Md p H H' → PenL H' p l (n + 2) → Q (.bl true) H'
theorem st_dispI {p : Addr} {i j : Int} (h : H p = some (.dK [])) (q : ∀ H1 kvs, G.MD p H H1 → H1 p = some (.dK kvs) → Q (.ref p) H1) : G.DispK p [(.int i, .int j)] H Q :=
  ⟨h, [(.inl i, .int j)], rfl, by simp, q _ _ (G.MD.put h) upd_same⟩
theorem not_blF (q : Q (.bl false) H) : rNotB (.bl false) (.bl false) H Q := ⟨_, _, rfl, rfl, q⟩
theorem elt_n : ∀ (i : Nat) (v : V) (b : Bool), ([] : List V)[i]? = some v → ([] : List Bool)[i]? = some b → Elt H v b := fun i v b h _ => by simp at h
theorem elt_c {v : V} {b : Bool} {xs : List V} {bs : List Bool} (h : Elt H v b) (t : ∀ (i : Nat) (v : V) (b : Bool), xs[i]? = some v → bs[i]? = some b → Elt H v b) : ∀ (i : Nat) (u : V) (c : Bool), (v :: xs)[i]? = some u → (b :: bs)[i]? = some c → Elt H u c
  | 0, u, c, e1, e2 => by cases e1; cases e2; exact h
  | i + 1, u, c, e1, e2 => t i u c (by simpa using e1) (by simpa using e2)
theorem shows_no {x : Addr} {a b c d : Int} {u : V} (h : IsK K H x a b c d) (nv : NoNum H v) (q : ∀ H', G.Kp H H' → Q (.bl false) H') : sp_shows K [.ref x, v, u] H Q E := ⟨x, a, b, c, d, v, u, rfl, h, .inl ⟨nv, q⟩⟩
theorem shows_x {w u : V} (h : NoPc K H w) (z : XPc K E H) : spx_shows K [w, v, u] H Q E := ⟨w, v, u, rfl, h, z⟩
end
section
variable {P : Program} [hP : G.SupP P "/claim/cut.py"] {w : World} {K : PySem.W.Frag} {mg : Str → Option Value} {base : Heap}
theorem ok_law_kinds_right (T : Tx K mg) (TB : LamX.TabB base mg (G.cA K (a_law_kinds_right K)) (G.pA K (a_law_kinds_right K))) : G.FnG P w K mg base CX0 10 (a_law_kinds_right K) (G.fdOf K (a_law_kinds_right K)) ["_law_pen_here", "_law_piece_here", "_law_order_here"] (sp_kinds K (G.pA K (a_law_kinds_right K))) := by
  refine G.ok_ofT (F_law_kinds_right T) sc_law_kinds_right (tf_law_kinds_right T).code (fun vs H Q E h => ?_) (fun cdv A outer s H vs Q E hcd hr h => ?_)
  · obtain ⟨p, l, x, t, n, a, b, c, d, os, rfl, _⟩ := h
    rfl
  · obtain ⟨p, l, x, t, n, a, b, c, d, os, rfl, hp, hn, hx, ht, lo, ob, tb, k⟩ := h
    obtain ⟨ys, hys⟩ := hp.is
    refine ⟨_, (pss_cons (ps_set (i := 3) sc_law_kinds_right.nd rfl (Or.inr rfl) (G.pe_callG (ok_law_pick T) (hr.mono (by first | decide | omega)) rfl (gl_law_pick T) (F_law_pick T).kp (bi_law_pick T) .nil pass0 (pa_cons (pv 0) (pa_cons (pe_lst (pa_cons pe_non (pa_cons pe_int (pa_cons pe_str (pa_cons L2.pe_dnewK (pa_cons (pe_disp (pps_cons pe_int pe_int pps_nil) (by rfl) (by rfl) (by intro z; cases z) (by decide)) (pa_cons (pe_lst (pa_cons pe_non pa_nil)) (pa_cons (pe_tup (pa_cons pe_int (pa_cons pe_bl pa_nil))) (pa_cons (pe_lst (pa_cons pe_int (pa_cons pe_str pa_nil))) (pa_cons (pe_lst (pa_cons pe_int pa_nil)) (pa_cons (pe_tup (pa_cons (pe_un G.un_negG pe_int) (pa_cons pe_int pa_nil))) (pa_cons (pe_lst (pa_cons (pe_tup (pa_cons pe_int pa_nil)) pa_nil)) pa_nil)))))))))))) pa_nil))))
    (pss_cons (ps_if (PW.pt (pw_or (pt_cmpR op_notBl (G.pe_callG (ok_shows_ring T) (hr.mono (by first | decide | omega)) rfl (gl_shows_ring T) (F_shows_ring T).kp (bi_shows_ring T) .nil pass0 (pa_cons (pv 1) (pa_cons (pv 3) (pa_cons (pv 2) pa_nil)))) pe_bl (nomark _)) (pw_or1 (pt_cmpR op_notBl (G.pe_callG (ok_shows_ring T) (hr.mono (by first | decide | omega)) rfl (gl_shows_ring T) (F_shows_ring T).kp (bi_shows_ring T) .nil pass0 (pa_cons (pv 1) (pa_cons (pv 3) (pa_cons pe_non pa_nil)))) pe_bl (nomark _))))) (pss_one (ps_ret pe_bl)) pss_nil)
    (pss_cons (ps_set (i := 4) sc_law_kinds_right.nd rfl (Or.inr rfl) (G.pe_callG (ok_law_pick T) (hr.mono (by first | decide | omega)) rfl (gl_law_pick T) (F_law_pick T).kp (bi_law_pick T) .nil pass0 (pa_cons (pv 0) (pa_cons (pe_lst (pa_cons pe_non (pa_cons pe_int (pa_cons pe_str (pa_cons (pe_tup (pa_cons pe_int (pa_cons pe_int pa_nil))) (pa_cons (pe_lst (pa_cons (pv 1) pa_nil)) (pa_cons L2.pe_dnewK (pa_cons (G.pe_makeG (mk_Ratio T) (ok_Ratio_init T) (hr.mono (by first | decide | omega)) rfl (gl_Ratio T) (bi_Ratio_init T) .nil pass0 (pa_cons pe_int (pa_cons pe_int pa_nil))) pa_nil)))))))) pa_nil))))
    (pss_one (ps_ret (pe_cmpR (G.op_eqG hr.units) (G.pe_lamF (k := 5) (st := s_law_heard) (F_law_heard T) rfl (gl_law_heard T) (bi_law_heard T) sc_law_heard rfl (by first | exact .inl rfl | exact .inr (.inl rfl)) (fun _ => gives_law_heard T) TB hcd (by first | rfl | kernel_rfl) (hr.mono (by first | decide | omega)) (LamX.lamS_by (sc := defScope s_law_kinds_right) (by decide +kernel)) rfl (fun _ _ _ _ _ => rfl) (fun _ _ _ _ E _ _ hr => (G.pe_callG (okx_shows_ring T) (hr.mono (by first | decide | omega)) rfl (gl_shows_ring T) (F_shows_ring T).kp (bi_shows_ring T) .nil (G.pass_E G.tk_E) (pa_cons (pv 4) (pa_cons (pv 3) (pa_cons (pv 2) pa_nil)))))) (pe_tup (pa_cons pe_str (pa_cons pe_str pa_nil))) (nomark _))))))), ?_⟩
    walk_at "start"
    walk_at "gos"
    rename_i d0 H1 n1 k1 e1 d1 H2 n2 k2 e2
    refine st_dispI e2 fun H3 kvs m3 e3 => ?_
    have K3 : G.Kp H H3 := G.Kp.MD (k1.back n2) (k1.trans k2) m3
    have e1' : H3 d0 = some (.dK []) := G.Kp.MD n2 k2 m3 _ _ e1
    have hp3 := hp.kp K3
    walk_at "gos"
    rename_i l0 H4 n4 k4 e4 l1 H5 n5 k5 e5 l2 H6 n6 k6 e6 l3 H7 n7 k7 e7 l4 H8 n8 k8 e8 l5 H9 n9 k9 e9 l6 HA nA kA eA l7 HB nB kB eB v HC hv mC pC
    have lp0 : l0 ≠ p := hp3.neu n4
    have lp2 : l2 ≠ p := (hp3.kp (k4.trans k5)).neu n6
    have lp3 : l3 ≠ p := (hp3.kp (k4.trans (k5.trans k6))).neu n7
    have lp6 : l6 ≠ p := (hp3.kp (k4.trans (k5.trans (k6.trans (k7.trans (k8.trans k9)))))).neu nA
    have KA := kA.trans kB
    have K9 := k9.trans KA
    have K8 := k8.trans K9
    have K7 := k7.trans K8
    have K6 := k6.trans K7
    have K5 := k5.trans K6
    have K4 := k4.trans K5
    have g0 : HC l0 = some (.lst [.non]) := mC.lst (K5 _ _ e4) lp0
    have g1 : HC l1 = some (.tup [.int 0, .bl true]) := mC.tup (K6 _ _ e5)
    have g2 : HC l2 = some (.lst [.int 0, .str "1"]) := mC.lst (K7 _ _ e6) lp2
    have g3 : HC l3 = some (.lst [.int 49]) := mC.lst (K8 _ _ e7) lp3
    have g4 : HC l4 = some (.tup [.int (-49), .int 0]) := mC.tup (K9 _ _ e8)
    have g5 : HC l5 = some (.tup [.int 0]) := mC.tup (KA _ _ e9)
    have g6 : HC l6 = some (.lst [.ref l5]) := mC.lst (kB _ _ eA) lp6
    have f0 : HC d0 = some (.dK []) := mC.dK (K4 _ _ e1')
    have f1 : HC d1 = some (.dK kvs) := mC.dK (K4 _ _ e3)
    have nv : NoNum HC v := by
      simp only [List.mem_cons, List.not_mem_nil, or_false] at hv
      rcases hv with rfl | rfl | rfl | rfl | rfl | rfl | rfl | rfl | rfl | rfl | rfl
      · exact .inl (.inl ⟨_, .non, by decide, by decide⟩)
      · exact .inl (.inr ⟨_, rfl⟩)
      · exact .inl (.inl ⟨_, .str _, by decide, by decide⟩)
      · exact .inl (.inl ⟨_, .dct f0, by decide, by decide⟩)
      · exact .inl (.inl ⟨_, .dct f1, by decide, by decide⟩)
      · exact .inr ⟨_, _, [false], rfl, ⟨.inl g0, by decide, rfl, elt_c (.inr ⟨⟨_, .non⟩, rfl⟩) elt_n⟩, rfl⟩
      · exact .inr ⟨_, _, [true, false], rfl, ⟨.inr g1, by decide, rfl, elt_c (.inl ⟨_, rfl, by decide⟩) (elt_c (.inr ⟨⟨_, .bl _⟩, rfl⟩) elt_n)⟩, rfl⟩
      · exact .inr ⟨_, _, [true, false], rfl, ⟨.inl g2, by decide, rfl, elt_c (.inl ⟨_, rfl, by decide⟩) (elt_c (.inr ⟨⟨_, .str _⟩, rfl⟩) elt_n)⟩, rfl⟩
      · exact .inr ⟨_, _, [false], rfl, ⟨.inl g3, by decide, rfl, elt_c (.inl ⟨_, rfl, by decide⟩) elt_n⟩, rfl⟩
      · exact .inr ⟨_, _, [false, true], rfl, ⟨.inr g4, by decide, rfl, elt_c (.inl ⟨_, rfl, by decide⟩) (elt_c (.inl ⟨_, rfl, by decide⟩) elt_n)⟩, rfl⟩
      · exact .inr ⟨_, _, [false], rfl, ⟨.inl g6, by simp, rfl, elt_c (.inr ⟨⟨_, .tup g5⟩, rfl⟩) elt_n⟩, rfl⟩
    have M1 : G.Md p H HC := (G.Md.of_kp hys (K3.trans K4)).trans mC
    have xC := hx.md M1
    have tC := M1.tup ht
    have tbC := M1.tb _ tb
    clear g0 g1 g2 g3 g4 g5 g6 f0 f1 hv K4 K5 K6 K7 K8 K9 KA k4 k5 k6 k7 k8 k9 kA kB e4 e5 e6 e7 e8 e9 eA eB n4 n5 n6 n7 n8 n9 nA nB lp0 lp2 lp3 lp6 mC e1' e3 e1 e2 n1 n2 m3 k1 k2 hp3 hp tb ht hx K3
    refine shows_no xC nv fun HD kD => ?_
    walk_at "gos"
    refine not_blF ?_
    walk_at "gos"
    refine shows_no (xC.kp kD) (nv.kp kD) fun HE kE => ?_
    walk_at "gos"
    refine not_blF ?_
    walk_at "gos"
    rename_i t1 HF nF kF eF t2 HG nG kG eG dd HI nI kI eI r HJ rn rd nJ kJ iJ low ll HK nK kK eK o HL ho mL pL HM kM
    have M2 : G.Md p H HK := M1.kp_r (kD.trans (kE.trans (kF.trans (kG.trans (kI.trans (kJ.trans kK))))))
    have lp2 : t2 ≠ p := by
      have := pC.kp (kD.trans (kE.trans kF))
      exact this.neu nG
    have g1 : HL t1 = some (.tup [.int 0, .int 1]) := mL.tup ((kG.trans (kI.trans (kJ.trans kK))) _ _ eF)
    have g2 : HL t2 = some (.lst [.ref x]) := mL.lst ((kI.trans (kJ.trans kK)) _ _ eG) lp2
    have g3 : HL dd = some (.dK []) := mL.dK ((kJ.trans kK) _ _ eI)
    have g4 : IsR K HL r rn rd := (iJ.kp kK).md mL
    have no : NoPc K HL o := by
      simp only [List.mem_cons, List.not_mem_nil, or_false] at ho
      rcases ho with rfl | rfl | rfl | rfl | rfl | rfl | rfl
      · exact .inl ⟨_, .non⟩
      · exact .inr (.inl ⟨_, rfl⟩)
      · exact .inl ⟨_, .str _⟩
      · exact .inl ⟨_, .tup g1⟩
      · exact .inl ⟨_, .lst g2⟩
      · exact .inl ⟨_, .dct g3⟩
      · exact .inr (.inr ⟨_, _, _, rfl, g4⟩)
    intro HN kN R
    walk_at "gos"
    refine shows_x (no.kp (kM.trans kN)) (eh_p fun y Ho kO eO => ?_)
    walk_at "gos"
    rename_i z HP nP kP eP
    have sh : SeqAt.shaped (.tuple [.str "piece", .str "piece"]) = true := by decide +kernel
    refine G.eq_dd (.tup (.of (kP _ _ eO)) (.cons (.str _) (.cons (.str _) .nil))) (.tup (.of eP) (.cons (.str _) (.cons (.str _) .nil))) sh sh ?_
    rw [SeqAt.eqv_refl _ (SeqAt.canLay_of_shaped sh)]
    have KZ := kM.trans (kN.trans (kO.trans kP))
    exact k _ ((M2.trans mL).kp_r KZ) ((pL.kp KZ).mono (by omega))
end
end Lw

namespace Lw
open PySem PySem.Spec PyProof.Rows L2
/-! ### k92: what is told at the end -/
instance (a b c d x y : Int) : Decidable (M92.Ok a b c d x y) := inferInstanceAs (Decidable (_ ∧ _ ∧ _))
instance (a b c d : Int) (P : Nat → Int) (n : Nat) : Decidable (M92.Around a b c d P n) := inferInstanceAs (Decidable ((∀ i < n, M92.Ok a b c d (P i) (P (i + 1))) ∧ _ ∧ _))
instance (a b c d : Int) (os : List Int) : Decidable (Round a b c d os) := inferInstanceAs (Decidable (_ ∨ _))
theorem end_1 : Shows 1 2 1 1 [1, 2] [0, 2, 1] := ⟨rfl, ⟨[0, 1, 2], by decide, fun k => by simp, by decide⟩, by decide⟩
theorem end_2 : ¬ Shows 1 2 1 1 [1, 2] [0, 1, 2] := fun h => absurd h.2.2 (by decide)
theorem end_3 : Shows 1 2 1 1 [] [0] := ⟨rfl, ⟨[0], by decide, fun k => by simp, by decide⟩, by decide⟩
theorem end_4 : Shows 1 49 1 48 [48] [0, 48] := ⟨rfl, ⟨[0, 48], by decide, fun k => by simp, by decide⟩, by decide⟩
theorem end_5 : ¬ Shows 0 1 1 1 [2] [0, 2] := fun h => absurd h.2.2 (by decide)
end Lw

namespace Lw
open PySem PySem.Spec PyProof.Rows L2
/-! ### k92: the law -/
section
variable {P : Program} {w : World} {K : PySem.W.Frag} {mg : Str → Option Value} {base : Heap} {H H' : Hp} {Q : VK} {E : XK}
def sp_whole (K : PySem.W.Frag) : Sp := fun vs H Q _ => vs = [] ∧ ∀ x H', H x = none → G.Kp H H' → IsK K H' x 0 1 1 1 → Q (.ref x) H'
theorem ok_Piece_whole (T : Tx K mg) : G.FnG P w K mg base CX0 7 (a_Piece_whole K) (G.fdOf K (a_Piece_whole K)) [] (sp_whole K) := by
  refine G.ok_of (F_Piece_whole T) sc_Piece_whole (fun vs H Q E h => ?_) (fun cdv A outer s H vs Q E hr h => ?_)
  · obtain ⟨rfl, _⟩ := h
    rfl
  · obtain ⟨rfl, z⟩ := h
    refine ⟨_, (pss_one (ps_ret (G.pe_makeG (mk_Piece T) (ok_Piece_init T) (hr.mono (by first | decide | omega)) rfl (gl_Piece T) (bi_Piece_init T) .nil pass0 (pa_cons pe_int (pa_cons pe_int pa_nil))))), ?_⟩
    walk_at "start"
    walk_at "gos"
    refine mk_PQ (q := 0) (r := 1) (m := 1) (l := 1) (.inr ⟨0, rfl, rfl, by show Int.natAbs 0 < 2 ^ 1; decide⟩) (.inr ⟨1, rfl, rfl, by show Int.natAbs 1 < 2 ^ 1; decide⟩) ⟨by decide +kernel, by decide +kernel, by decide +kernel, by decide +kernel, by decide +kernel, by decide, by decide, by decide, by decide⟩ fun x a b H' hn kk ip => ?_
    walk_at "gos"
    exact z x H' hn kk ⟨_, _, _, _, _, _, ip, by decide +kernel, by decide +kernel, by decide +kernel, by decide +kernel, by decide, by decide⟩
theorem shows_t {x r t : Addr} {a b c d : Int} {ns os : List Int} (hx : IsK K H x a b c d) (hr : G.SqX H r (inZ ns)) (ht : H t = some (.tup (inZ os))) (n : In48 ns) (lo : os.length ≤ 25) (ob : ∀ n ∈ os, G.Bd 8 n) (sh : Shows a b c d ns os) (q : ∀ H', G.Kp H H' → Q (.bl true) H') : sp_shows K [.ref x, .ref r, .ref t] H Q E :=
  ⟨x, a, b, c, d, _, _, rfl, hx, .inr ⟨r, ns, rfl, hr, n, .inr ⟨t, os, rfl, ht, lo, ob, fun H' τ k e => by rw [e.mpr sh]; exact q H' k⟩⟩⟩
theorem shows_f {x r t : Addr} {a b c d : Int} {ns os : List Int} (hx : IsK K H x a b c d) (hr : G.SqX H r (inZ ns)) (ht : H t = some (.tup (inZ os))) (n : In48 ns) (lo : os.length ≤ 25) (ob : ∀ n ∈ os, G.Bd 8 n) (sh : ¬ Shows a b c d ns os) (q : ∀ H', G.Kp H H' → Q (.bl false) H') : sp_shows K [.ref x, .ref r, .ref t] H Q E :=
  ⟨x, a, b, c, d, _, _, rfl, hx, .inr ⟨r, ns, rfl, hr, n, .inr ⟨t, os, rfl, ht, lo, ob, fun H' τ k e => by
    cases τ with
    | true => exact absurd (e.mp rfl) sh
    | false => exact q H' k⟩⟩⟩
theorem isQ_of {r : Addr} {a b : Int} (h : IsR K H r a b) (b0 : 0 < b) (g : Int.gcd a b = 1) (ba : G.Bd 12 a) (bb : G.Bd 12 b) : IsQ K H r (Rat.divInt a b) 12 := by
  obtain ⟨n1, n2⟩ := num_den b0 g
  exact ⟨by rw [n1, n2]; exact h, by rw [n1]; exact ba, by rw [n2]; exact bb⟩
theorem is_blF (q : Q (.bl true) H) : rIsB (.bl false) (.bl false) H Q := ⟨_, _, rfl, rfl, q⟩
theorem bd_s {os : List Int} (h : ∀ n ∈ os, -48 ≤ n ∧ n ≤ 48) : ∀ n ∈ os, G.Bd 8 n := fun n hn => bd48 (h n hn)
/-- what is told of a value -/
def Told (K : PySem.W.Frag) (H : Hp) (v : V) (a b c d : Int) (ms : List Int) (β : Bool) : Prop :=
  (∃ (t : Addr) (os : List Int), v = .ref t ∧ H t = some (.tup (inZ os)) ∧ os.length ≤ 25 ∧ (∀ n ∈ os, G.Bd 8 n) ∧ (β = true ↔ Shows a b c d ms os)) ∨ (β = false ∧ NoOrd H v ∧ NoTx K H v)
theorem Told.kp {v : V} {a b c d : Int} {ms : List Int} {β : Bool} (k : G.Kp H H') (h : Told K H v a b c d ms β) : Told K H' v a b c d ms β := h.imp (fun ⟨t, os, e, h, r⟩ => ⟨t, os, e, k _ _ h, r⟩) fun ⟨e, n, x⟩ => ⟨e, n.kp k, x.kp k⟩
open Classical in
theorem told_of {v : V} (a b c d : Int) (ms : List Int) (h : BentV K H v) : ∃ β, Told K H v a b c d ms β := by
  rcases h with ⟨t, os, e, h, l, b'⟩ | ⟨n, x⟩
  · exact ⟨decide (Shows a b c d ms os), .inl ⟨t, os, e, h, l, b', by simp⟩⟩
  · exact ⟨false, .inr ⟨rfl, n, x⟩⟩
theorem bool_iff {β τ : Bool} {S : Prop} (h : β = true ↔ S) (g : τ = true ↔ S) : τ = β := by
  cases β <;> cases τ <;> simp_all
theorem due_told {e r : Addr} {v : V} {a b c d : Int} {ms : List Int} {β : Bool} (h : Told K H v a b c d ms β) (he : H e = some (.tup [.int a, .int b, .int c, .int d])) (hr : H r = some (.lst (inZ ms))) (l : ms.length ≤ 20) (n : In48 ms) (nb : M92.Nb a b c d) (xa : G.Bd 100 a) (xb : G.Bd 100 b) (xc : G.Bd 100 c) (xd : G.Bd 100 d)
    (q : ∀ H', G.Kp H H' → Q (.bl β) H') : sp_due K [.ref e, .ref r, v] H Q E := by
  refine ⟨e, r, ms, a, b, c, d, v, rfl, he, hr, l, n, nb, xa, xb, xc, xd, ?_⟩
  rcases h with ⟨t, os, rfl, ht, lo, ob, te⟩ | ⟨rfl, no, nx⟩
  · exact .inl ⟨t, os, rfl, ht, by omega, ob, fun H' τ k g => by rw [bool_iff te g]; exact q H' k⟩
  · exact .inr ⟨nx, q⟩
theorem shows_told {x r : Addr} {v : V} {a b c d : Int} {ms : List Int} {β : Bool} (hx : IsK K H x a b c d) (hr : G.SqX H r (inZ ms)) (n : In48 ms) (h : Told K H v a b c d ms β) (q : ∀ H', G.Kp H H' → Q (.bl β) H') : sp_shows K [.ref x, .ref r, v] H Q E := by
  refine ⟨x, a, b, c, d, _, _, rfl, hx, .inr ⟨r, ms, rfl, hr, n, ?_⟩⟩
  rcases h with ⟨t, os, rfl, ht, lo, ob, te⟩ | ⟨rfl, no, nx⟩
  · exact .inr ⟨t, os, rfl, ht, lo, ob, fun H' τ k g => by rw [bool_iff te g]; exact q H' k⟩
  · exact .inl ⟨no, q⟩
def sp_law (K : PySem.W.Frag) : Sp := fun vs H Q _ => ∃ (x : Addr) (ns : List Int), vs = [.ref x] ∧ SqL K H x (ns.map V.int) ∧ ns.length ≤ 63 ∧ G.TabP H (G.pA K (He.ga K "_law_kinds_right")) ∧ ∀ H', Q (.bl true) H'
end
section
variable {P : Program} [hP : G.SupP P "/claim/cut.py"] {w : World} {K : PySem.W.Frag} {mg : Str → Option Value} {base : Heap}
set_option maxHeartbeats 20000000 in
theorem ok_law (T : Tx K mg) (B : LamX.TabB base mg (G.cA K (a_law_kinds_right K)) (G.pA K (a_law_kinds_right K))) : G.FnG P w K mg base CX0 12 (a_law K) (G.fdOf K (a_law K)) ["_law_script"] (sp_law K) := by
  refine G.ok_of (F_law T) sc_law (fun vs H Q E h => ?_) (fun cdv A outer s H vs Q E hr h => ?_)
  · obtain ⟨x, ns, rfl, _⟩ := h
    rfl
  · obtain ⟨x, ns, rfl, hx, ln, tb, q⟩ := h
    refine ⟨_, (pss_cons (ps_set (i := 1) sc_law.nd rfl (Or.inr rfl) (G.pe_callG (ok_law_pen T) (hr.mono (by first | decide | omega)) rfl (gl_law_pen T) (F_law_pen T).kp (bi_law_pen T) .nil pass0 (pa_cons (pv 0) pa_nil)))
    (pss_cons (ps_for PassesOwn.never rfl (pi_range1 rfl (fr_range T) (pa_cons pe_int pa_nil)) (pg_name (i := 2) sc_law.nd rfl (Or.inl rfl)) (pss_cons (ps_set (i := 3) sc_law.nd rfl (Or.inl rfl) (G.pe_callG (ok_law_walk T) (hr.mono (by first | decide | omega)) rfl (gl_law_walk T) (F_law_walk T).kp (bi_law_walk T) .nil pass0 (pa_cons (pv 1) (pa_cons pe_int pa_nil))))
    (pss_cons (ps_asg (pe_tup (pa_cons (G.pe_callG (ok_law_piece T) (hr.mono (by first | decide | omega)) rfl (gl_law_piece T) (F_law_piece T).kp (bi_law_piece T) .nil pass0 (pa_cons (pv 3) pa_nil)) (pa_cons (G.pe_callG (ok_law_numbers T) (hr.mono (by first | decide | omega)) rfl (gl_law_numbers T) (F_law_numbers T).kp (bi_law_numbers T) .nil pass0 (pa_cons (pv 1) (pa_cons (G.pe_callG (ok_law_pick T) (hr.mono (by first | decide | omega)) rfl (gl_law_pick T) (F_law_pick T).kp (bi_law_pick T) .nil pass0 (pa_cons (pv 1) (pa_cons (pe_lst (pa_cons pe_int (pa_cons pe_int (pa_cons pe_int pa_nil)))) pa_nil))) pa_nil))) pa_nil))) (pg_tup (n := 2) (by rfl) (pgs_cons (pg_name (i := 4) sc_law.nd rfl (Or.inl rfl)) (pgs_cons (pg_name (i := 5) sc_law.nd rfl (Or.inr rfl)) pgs_nil))))
    (pss_cons (ps_set (i := 6) sc_law.nd rfl (Or.inl rfl) (pe_callB (G.cr_sortedSet rfl) (by rfl) (fr_sorted T) boot_sorted (pa_cons (pe_callTy (G.cr_setL rfl) (by rfl) (fr_set T) boot_set (pa_cons (pe_op G.op_addG (pe_lst (pa_cons pe_int pa_nil)) (pe_lc (own := [("_law_number", 7)]) (by rfl) sc_law.nd (pi_list (pv 5)) (blkOk_by (N := ["_law_script", "_law_pen_here", "_law_turn", "_law_ends", "_law_piece_here", "_law_some", "_law_row", "_law_number", "_law_order_here", "_law_lent", "_law_values", "_law_k", "_law_value", "_law_due_here", "_law_half", "_law_seen"]) (sc := defScope s_law) (by decide +kernel)) (fun _ _ _ _ _ => (pg_name (i := 7) sc_law.nd rfl (Or.inl rfl))) (fun _ _ _ _ _ => pts_nil) (fun _ _ _ _ _ => (pe_callTy G.call_intG (by rfl) (fr_int T) boot_int (pa_cons (pv 7) pa_nil))))) pa_nil)) pa_nil)))
    (pss_cons (ps_asg (pe_tup (pa_cons (G.pe_callG (ok_law_order T) (hr.mono (by first | decide | omega)) rfl (gl_law_order T) (F_law_order T).kp (bi_law_order T) .nil pass0 (pa_cons (pv 3) (pa_cons (pv 6) (pa_cons pe_int (pa_cons pe_int pa_nil))))) (pa_cons (pe_callTy G.call_listG (by rfl) (fr_list T) boot_list (pa_cons (pv 5) pa_nil)) pa_nil))) (pg_tup (n := 2) (by rfl) (pgs_cons (pg_name (i := 8) sc_law.nd rfl (Or.inr rfl)) (pgs_cons (pg_name (i := 9) sc_law.nd rfl (Or.inl rfl)) pgs_nil))))
    (pss_cons (ps_set (i := 10) sc_law.nd rfl (Or.inl rfl) (pe_op G.op_addG (pe_lst (pa_cons (pv 8) pa_nil)) (pe_lc (own := [("_law_k", 11)]) (by rfl) sc_law.nd (pi_range1 rfl (fr_range T) (pa_cons pe_int pa_nil)) (blkOk_by (N := ["_law_script", "_law_pen_here", "_law_turn", "_law_ends", "_law_piece_here", "_law_some", "_law_row", "_law_number", "_law_order_here", "_law_lent", "_law_values", "_law_k", "_law_value", "_law_due_here", "_law_half", "_law_seen"]) (sc := defScope s_law) (by decide +kernel)) (fun _ _ _ _ _ => (pg_name (i := 11) sc_law.nd rfl (Or.inl rfl))) (fun _ _ _ _ _ => pts_nil) (fun _ _ _ _ _ => (G.pe_callG (ok_law_bent_order T) (hr.mono (by first | decide | omega)) rfl (gl_law_bent_order T) (F_law_bent_order T).kp (bi_law_bent_order T) .nil pass0 (pa_cons (pv 1) (pa_cons (pv 8) (pa_cons (pv 5) pa_nil))))))))
    (pss_cons (ps_for PassesOwn.never rfl (pi_list (pv 10)) (pg_name (i := 12) sc_law.nd rfl (Or.inl rfl)) (pss_cons (ps_set (i := 13) sc_law.nd rfl (Or.inl rfl) (pe_callB (G.call_reprG hr) (by rfl) (fr_repr T) boot_repr (pa_cons (pe_op op_rep (pe_lst (pa_cons (G.pe_callG (ok_law_due T) (hr.mono (by first | decide | omega)) rfl (gl_law_due T) (F_law_due T).kp (bi_law_due T) .nil pass0 (pa_cons (pv 3) (pa_cons (pv 5) (pa_cons (pv 12) pa_nil)))) pa_nil)) pe_int) pa_nil)))
    (pss_one (ps_if (pt_cmpR (G.op_neG hr.units) (pe_callB (G.call_reprG hr) (by rfl) (fr_repr T) boot_repr (pa_cons (pe_lst (pa_cons (G.pe_callG (ok_shows_ring T) (hr.mono (by first | decide | omega)) rfl (gl_shows_ring T) (F_shows_ring T).kp (bi_shows_ring T) .nil pass0 (pa_cons (pv 4) (pa_cons (pv 5) (pa_cons (pv 12) pa_nil)))) (pa_cons (G.pe_callG (ok_shows_ring T) (hr.mono (by first | decide | omega)) rfl (gl_shows_ring T) (F_shows_ring T).kp (bi_shows_ring T) .nil pass0 (pa_cons (pv 4) (pa_cons (pe_callTy G.call_tupG (by rfl) (fr_tuple T) boot_tuple (pa_cons (pv 5) pa_nil)) (pa_cons (pv 12) pa_nil)))) pa_nil))) pa_nil)) (pv 13) (nomark _)) (pss_one (ps_ret pe_bl)) pss_nil))))
    (pss_one (ps_if (PW.pt (pw_or (pt_cmpR (G.op_neG hr.units) (pv 5) (pv 9) (nomark _)) (pw_or1 (pt_not (pt_val (G.pe_callG (ok_law_kinds_right T B) (hr.mono (by first | decide | omega)) rfl (gl_law_kinds_right T) (F_law_kinds_right T).kp (bi_law_kinds_right T) .nil pass0 (pa_cons (pv 1) (pa_cons (pv 4) (pa_cons (pv 8) pa_nil))))))))) (pss_one (ps_ret pe_bl)) pss_nil)))))))))
    (pss_cons (ps_set (i := 14) sc_law.nd rfl (Or.inl rfl) (G.pe_makeG (mk_Piece T) (ok_Piece_init T) (hr.mono (by first | decide | omega)) rfl (gl_Piece T) (bi_Piece_init T) .nil pass0 (pa_cons (G.pe_makeG (mk_Ratio T) (ok_Ratio_init T) (hr.mono (by first | decide | omega)) rfl (gl_Ratio T) (bi_Ratio_init T) .nil pass0 (pa_cons pe_int (pa_cons pe_int pa_nil))) (pa_cons pe_int pa_nil))))
    (pss_cons (ps_set (i := 15) sc_law.nd rfl (Or.inl rfl) (pe_lst (pa_cons (G.pe_callG (ok_shows_ring T) (hr.mono (by first | decide | omega)) rfl (gl_shows_ring T) (F_shows_ring T).kp (bi_shows_ring T) .nil pass0 (pa_cons (pv 14) (pa_cons (pe_lst (pa_cons pe_int (pa_cons pe_int pa_nil))) (pa_cons (pe_tup (pa_cons pe_int (pa_cons pe_int (pa_cons pe_int pa_nil)))) pa_nil)))) (pa_cons (G.pe_callG (ok_shows_ring T) (hr.mono (by first | decide | omega)) rfl (gl_shows_ring T) (F_shows_ring T).kp (bi_shows_ring T) .nil pass0 (pa_cons (pv 14) (pa_cons (pe_lst (pa_cons pe_int (pa_cons pe_int pa_nil))) (pa_cons (pe_tup (pa_cons pe_int (pa_cons pe_int (pa_cons pe_int pa_nil)))) pa_nil)))) (pa_cons (G.pe_callG (ok_shows_ring T) (hr.mono (by first | decide | omega)) rfl (gl_shows_ring T) (F_shows_ring T).kp (bi_shows_ring T) .nil pass0 (pa_cons (pv 14) (pa_cons (pe_lst pa_nil) (pa_cons (pe_tup (pa_cons pe_int pa_nil)) pa_nil)))) pa_nil)))))
    (pss_cons (ps_expr (pe_bm PySem.F.plainAttrs_list PySem.F.slot_list_append PySem.F.type_list_append mt_append (pv 15) (pa_cons (G.pe_callG (ok_shows_ring T) (hr.mono (by first | decide | omega)) rfl (gl_shows_ring T) (F_shows_ring T).kp (bi_shows_ring T) .nil pass0 (pa_cons (G.pe_makeG (mk_Piece T) (ok_Piece_init T) (hr.mono (by first | decide | omega)) rfl (gl_Piece T) (bi_Piece_init T) .nil pass0 (pa_cons (G.pe_makeG (mk_Ratio T) (ok_Ratio_init T) (hr.mono (by first | decide | omega)) rfl (gl_Ratio T) (bi_Ratio_init T) .nil pass0 (pa_cons pe_int (pa_cons pe_int pa_nil))) (pa_cons (G.pe_makeG (mk_Ratio T) (ok_Ratio_init T) (hr.mono (by first | decide | omega)) rfl (gl_Ratio T) (bi_Ratio_init T) .nil pass0 (pa_cons pe_int (pa_cons pe_int pa_nil))) pa_nil))) (pa_cons (pe_lst (pa_cons pe_int pa_nil)) (pa_cons (pe_tup (pa_cons pe_int (pa_cons pe_int pa_nil))) pa_nil)))) pa_nil)))
    (pss_cons (ps_expr (pe_bm PySem.F.plainAttrs_list PySem.F.slot_list_append PySem.F.type_list_append mt_append (pv 15) (pa_cons (G.pe_callG (ok_shows_ring T) (hr.mono (by first | decide | omega)) rfl (gl_shows_ring T) (F_shows_ring T).kp (bi_shows_ring T) .nil pass0 (pa_cons (G.pe_makeG (mk_Piece T) (ok_Piece_init T) (hr.mono (by first | decide | omega)) rfl (gl_Piece T) (bi_Piece_init T) .nil pass0 (pa_cons (G.pe_makeG (mk_Ratio T) (ok_Ratio_init T) (hr.mono (by first | decide | omega)) rfl (gl_Ratio T) (bi_Ratio_init T) .nil pass0 (pa_cons pe_int (pa_cons pe_int pa_nil))) (pa_cons (G.pe_makeG (mk_Ratio T) (ok_Ratio_init T) (hr.mono (by first | decide | omega)) rfl (gl_Ratio T) (bi_Ratio_init T) .nil pass0 (pa_cons pe_int (pa_cons pe_int pa_nil))) pa_nil))) (pa_cons (pe_lst (pa_cons pe_int pa_nil)) (pa_cons (pe_tup (pa_cons pe_int (pa_cons pe_int pa_nil))) pa_nil)))) pa_nil)))
    (pss_one (ps_ret (pe_and (pe_cmpR (G.op_eqG hr.units) (pv 15) (pe_lst (pa_cons pe_bl (pa_cons pe_bl (pa_cons pe_bl (pa_cons pe_bl (pa_cons pe_bl pa_nil)))))) (nomark _)) (pe_one (pe_cmpR op_isBl (G.pe_callG (ok_shows_ring T) (hr.mono (by first | decide | omega)) rfl (gl_shows_ring T) (F_shows_ring T).kp (bi_shows_ring T) .nil pass0 (pa_cons (G.pe_smeth0 (G.pe_cl rfl (gl_Piece T)) (rd_Piece T) (sm_Piece_whole T) (ok_Piece_whole T) (hr.mono (by first | decide | omega)) (bi_Piece_whole T) .nil pass0) (pa_cons (pe_tup (pa_cons pe_int pa_nil)) (pa_cons (pe_tup (pa_cons pe_int (pa_cons pe_int pa_nil))) pa_nil)))) pe_bl (nomark _)))))))))))), ?_⟩
    walk_at "start"
    walk_at "gos"
    rename_i p l H1 _ k1 p1
    have tb1 := k1.tb _ tb
    refine G.for_rng (fun i σ H' => ∃ v2 v3 v4 v5 v6 v7 v8 v9 v10 v11 v12 v13 v14 v15, σ = [some (.ref x), some (.ref p), v2, v3, v4, v5, v6, v7, v8, v9, v10, v11, v12, v13, v14, v15] ∧ PenL H' p l (60 * i) ∧ G.TabP H' (G.pA K (a_law_kinds_right K))) ⟨_, _, _, _, _, _, _, _, _, _, _, _, _, _, rfl, p1, tb1⟩ ?_ ?_
    · rintro i σ H2 hi ⟨v2, v3, v4, v5, v6, v7, v8, v9, v10, v11, v12, v13, v14, v15, rfl, p2, t2⟩
      have hi5 : i < 7 := hi
      clear p1 k1 tb1
      walk_at "gos"
      refine ⟨p, l, _, rfl, p2, by omega, fun ze H3 a b c d n3 m3 p3 en b2 d2 e3 => ?_⟩
      have t3 := m3.tb _ t2
      walk_at "gos"
      refine ⟨ze, a, b, c, d, rfl, e3, en, b2, d2, fun pc H4 n4 k4 i4 => ?_⟩
      have t4 := k4.tb _ t3
      have p4 := p3.kp k4
      have e4 := k4 _ _ e3
      clear p2 t2 m3 t3 p3 k4 e3 n3
      walk_at "gos"
      rename_i l5 H5 n5 k5 e5 v H6 hv m6 p6
      obtain ⟨far, rfl, f2, f48⟩ : ∃ far : Int, v = .int far ∧ 2 ≤ far ∧ far ≤ 48 := by
        simp only [List.mem_cons, List.not_mem_nil, or_false] at hv
        rcases hv with rfl | rfl | rfl
        · exact ⟨2, rfl, by decide, by decide⟩
        · exact ⟨6, rfl, by decide, by decide⟩
        · exact ⟨48, rfl, by decide, by decide⟩
      refine ⟨p, l, _, far, rfl, p6, by omega, f2, f48, fun zs H7 ms n7 m7 p7 e7 l10 b48 => ?_⟩
      have zp : zs ≠ p := p6.neu n7
      have e47 : H7 ze = some (.tup [.int a, .int b, .int c, .int d]) := m7.tup (m6.tup (k5 _ _ e4))
      have i47 := ((i4.kp k5).md m6).md m7
      have t7 := m7.tb _ (m6.tb _ (k5.tb _ t4))
      clear hv n5 k5 e5 m6 p6 n7 m7 p4 t4 e4 i4 n4
      walk_at "gos"
      rename_i tp H8 n8 k8 e8 l0 H9 n9 k9 e9
      have ez := k9 _ _ (k8 _ _ e7)
      refine G.lc_map1 (σ0 := [some (V.ref x), some (V.ref p), some (V.int (0 + ↑i)), some (V.ref ze), some (V.ref pc), some (V.ref zs), v6, none, v8, v9, v10, v11, v12, v13, v14, v15]) (xs := inZ ms) (ys := inZ ms) (.inl ⟨rfl, ez⟩) rfl (fun x => rfl) rfl (by simp; omega) ?_ ?_
      · intro i v y H' R hv hy k1 hR
        obtain ⟨n, hn, rfl⟩ : ∃ n, ms[i]? = some n ∧ V.int n = v := by simpa using hv
        rw [hv] at hy
        cases hy
        walk_at "gos"
        exact hR _ G.Kp.refl
      intro D HA nD eD kA
      walk_at "gos"
      refine G.add_ll (kA _ _ e9) eD (by simp; omega) fun pb HB nB kB eB => ?_
      rw [show [V.int 0] ++ inZ ms = inZ (0 :: ms) from rfl] at eB
      walk_at "gos"
      refine G.set_l (SqL.of eB) (by simp; omega) fun sa c2 HC nC kC lc eC => ?_
      walk_at "gos"
      refine G.sorted_s eC (by simp at lc; omega) fun sl ws HD nD kD asc mem eD => ?_
      have mem' : ∀ k, k ∈ ws ↔ k = 0 ∨ k ∈ ms := fun k => by rw [mem, decide_eq_true_iff, List.mem_cons]
      have w48 : ∀ x ∈ ws, -48 ≤ x ∧ x ≤ 48 := fun x hx => by
        rcases (mem' x).mp hx with rfl | m
        · omega
        · exact b48 x m
      have lw : ws.length ≤ 11 := by
        have := nodup_len (ys := 0 :: ms) (asc_nodup asc) fun k hk => List.mem_cons.mpr ((mem' k).mp hk)
        rw [List.length_cons] at this
        omega
      have wne : ws ≠ [] := fun z => by
        have := (mem' 0).mpr (.inl rfl)
        rw [z] at this
        exact nomatch this
      have KH := k8.trans (k9.trans (kA.trans (kB.trans (kC.trans kD))))
      have eD' : HD sl = some (.lst (inZ ws)) := eD
      have e4D := KH _ _ e47
      have izD := i47.kp KH
      have tD := KH.tb _ t7
      have pD := p7.kp KH
      have ezD := KH _ _ e7
      have en0 := en.a0
      have en1 := en.ab
      have en2 := en.c0
      have en3 := en.cd
      have xa : G.Bd 100 a := (bd256 (by omega) (by omega)).mono (by decide)
      have xb : G.Bd 100 b := (bd256 (by omega) (by omega)).mono (by decide)
      have xc : G.Bd 100 c := (bd256 (by omega) (by omega)).mono (by decide)
      have xd : G.Bd 100 d := (bd256 (by omega) (by omega)).mono (by decide)
      clear eD eB lc eC mem nD kA kB kC kD n8 k8 e8 n9 k9 e9 ez nB nC KH e47 i47 t7 p7 e7
      walk_at "gos"
      refine ⟨ze, sl, ws, a, b, c, d, rfl, e4D, eD', by omega, bd_s w48, en.nb.b0, en.nb.d0, xa, xb, xc, xd, fun to HE os kE eE lE oE mE _ => ?_⟩
      have one := oE wne
      have e4E := kE _ _ e4D
      have izE := izD.kp kE
      have tE := kE.tb _ tD
      have pE := pD.kp kE
      have ezE := kE _ _ ezD
      clear e4D izD tD pD ezD kE oE
      walk_at "gos"
      rename_i lt HF nF kF eF tp2 HG nG kG eG l2 HI nI kI eI
      have KI := kF.trans (kG.trans kI)
      have e4I := KI _ _ e4E
      have izI := izE.kp KI
      have tI := KI.tb _ tE
      have pI := pE.kp KI
      have ezI := KI _ _ ezE
      have eoI := KI _ _ eE
      have eFI := (kG.trans kI) _ _ eF
      have ltp : lt ≠ p := pE.neu nF
      have l2p : l2 ≠ p := (pE.kp (kF.trans kG)).neu nI
      have ob : ∀ n ∈ os, G.Bd 8 n := fun n hn => bd_s w48 n (mE n hn)
      clear e4E izE tE pE ezE KI kF kG kI eF nF nG eG nI eD eD' nD eE
      obtain ⟨yp, hyp⟩ := pI.is
      refine G.lc_rngG (σ0 := ?z0) (fun D j H' => ∃ vs : List V, G.Md p HI H' ∧ HI D = none ∧ PenL H' p l (60 * i + 9 + 1 + 8 + 3 * j) ∧ H' D = some (.lst vs) ∧ vs.length = j ∧ ∀ v ∈ vs, BentS K (fun a => a = p ∨ a = D) H' v) ?e ?h0 ?hs ?hd
      case e => (simp only [List.map_cons, List.map_nil, L2.wipe, List.set_cons_zero, List.set_cons_succ]; rfl)
      case h0 =>
        intro D HJ nD k2 e2
        exact ⟨[], G.Md.of_kp hyp k2, nD, pI.kp k2, e2, rfl, fun _ h => (nomatch h)⟩
      case hs =>
        rintro D j HJ hj ⟨vs, m2, nD, p2, eD, el, bs⟩
        have hj5 : j < 5 := hj
        obtain ⟨d1, d2⟩ := pI.fresh nD
        walk_at "gos"
        have hS : ∀ a, (a = p ∨ a = D) → ∃ xs, HJ a = some (.lst xs) := fun a h => by
          rcases h with rfl | rfl
          · exact p2.is
          · exact ⟨vs, eD⟩
        refine ⟨fun a => a = p ∨ a = D, p, l, to, zs, _, os, ms, rfl, hS, (fun z => z.elim zp fun z => by rw [← z, ezI] at nD; cases nD), p2, by omega, m2.tup eoI, m2.lst ezI zp, zp, by omega, one, ob, by omega, bd_s b48, fun v HK m3 p3 b3 => ?_⟩
        have eD3 := m3.lst eD d1.symm
        refine G.st_app eD3 (by rw [sizeLine_eq]; omega) fun HL m4 e4 => ?_
        have hS3 : ∀ a, (a = p ∨ a = D) → ∃ xs, HK a = some (.lst xs) := fun a h => by
          rcases h with rfl | rfl
          · exact p3.is
          · exact ⟨vs, eD3⟩
        obtain ⟨y3, hy3⟩ := p3.is
        refine ⟨vs ++ [v], (m2.trans m3).md_new m4 nD, nD, (p3.md m4 d1 d2).mono (by omega), e4, by rw [List.length_append, List.length_singleton, el], fun u hu => ?_⟩
        have k4 : Kx (fun a => a = p ∨ a = D) HK HL := .of_md hS3 (.inr rfl) e4 m4
        rcases List.mem_append.mp hu with z | z
        · exact ((bs u z).kx (.of_md hS (.inl rfl) hy3 m3)).kx k4
        · rw [List.mem_singleton] at z
          subst z
          exact b3.kx k4
      rintro D HJ ⟨vs, m2, nD, p2, eD, el, bs⟩
      have lD : HJ l2 = some (.lst [.ref to]) := m2.lst eI l2p
      walk_at "gos"
      rename_i va HK nK kK eK
      rw [List.singleton_append] at eK
      have hS : ∀ a, (a = p ∨ a = D) → ∃ xs, HJ a = some (.lst xs) := fun a h => by
        rcases h with rfl | rfl
        · exact p2.is
        · exact ⟨vs, eD⟩
      have bv : ∀ v ∈ (V.ref to :: vs), BentV K HK v := fun v hv => by
        rcases List.mem_cons.mp hv with rfl | hv
        · exact bent_t (kK _ _ (m2.tup eoI)) (by omega) ob
        · exact bs v hv HK (.of_kp hS kK)
      have e4K := kK _ _ (m2.tup e4I)
      have izK := (izI.md m2).kp kK
      have tK := kK.tb _ (m2.tb _ tI)
      have pK := p2.kp kK
      have ezK := kK _ _ (m2.lst ezI zp)
      have eoK := kK _ _ (m2.tup eoI)
      have eFK := kK _ _ (m2.lst eFI ltp)
      have lv : (V.ref to :: vs).length = 6 := by rw [List.length_cons, el]; rfl
      clear e4I izI tI pI ezI eoI eFI hyp m2 nD p2 eD bs lD eI hS kK nK
      walk_at "gos"
      refine G.for_lst (xs := V.ref to :: vs) (fun j σ H' => ∃ w1 w2, σ = [some (V.ref x), some (V.ref p), some (V.int (0 + ↑i)), some (V.ref ze), some (V.ref pc), some (V.ref zs), some (V.ref sl), v7, some (V.ref to), some (V.ref lt), some (V.ref va), v11, w1, w2, v14, v15] ∧ G.Kp HK H') ⟨_, _, rfl, .refl⟩ (fun j σ H' _ ⟨_, _, _, kk⟩ => SqL.of (kk _ _ eK)) ?_ ?_
      · rintro j v σ HL hv ⟨w1, w2, rfl, kL⟩
        obtain ⟨β, tb⟩ := told_of a b c d ms ((bv v (List.mem_of_getElem? hv)).kp kL)
        have n48 : In48 ms := ⟨by omega, b48⟩
        have e4L := kL _ _ e4K
        have izL := izK.kp kL
        have ezL := kL _ _ ezK
        walk_at "gos"
        refine due_told tb e4L ezL (by omega) n48 en.nb xa xb xc xd fun HM kM => ?_
        have e4M := kM _ _ e4L
        have izM := izL.kp kM
        have ezM := kM _ _ ezL
        have tbM := tb.kp kM
        have KM := kL.trans kM
        clear e4L izL ezL tb kL kM
        walk_at "gos"
        rename_i l1 HN nN kN eN
        refine G.rep_l (ys := [.bl β, .bl β]) eN ⟨by decide, by decide⟩ (by simp) rfl fun l2 HO' nO kO eO => ?_
        walk_at "gos"
        refine G.repr_l2 (SqL.of eO) ?_
        have kO2 := kN.trans kO
        have izO := izM.kp kO2
        have ezO := kO2 _ _ ezM
        have tbO := tbM.kp kO2
        have KO := KM.trans kO2
        clear izM ezM tbM KM kO2 kN kO nN eN nO eO e4M
        walk_at "gos"
        refine shows_told izO (.inl ezO) n48 tbO fun HP kP => ?_
        have izP := izO.kp kP
        have ezP := kP _ _ ezO
        have tbP := tbO.kp kP
        have KP := KO.trans kP
        clear izO ezO tbO KO kP
        walk_at "gos"
        rename_i tz HQ nQ kQ eQ
        refine shows_told (izP.kp kQ) (.inr eQ) n48 (tbP.kp kQ) fun HR kR => ?_
        have KR := KP.trans (kQ.trans kR)
        clear izP ezP tbP KP kQ nQ eQ kR
        walk_at "gos"
        rename_i lr HS nS kS eS
        refine G.repr_l2 (SqL.of eS) ?_
        walk_at "gos"
        rw [decide_eq_true rfl]
        walk_at "gos"
        exact ⟨_, _, rfl, KR.trans kS⟩
      · rintro σ HL ⟨w1, w2, rfl, kL⟩
        walk_at "gos"
        refine ne_lists (kL _ _ ezK) (kL _ _ eFK) ?_
        rw [decide_eq_true rfl]
        walk_at "gos"
        refine ⟨p, l, pc, to, _, a, b, c, d, os, rfl, pK.kp kL, by have : Int.toNat 5 = 5 := rfl; omega, izK.kp kL, kL _ _ eoK, by omega, ob, kL.tb _ tK, fun HM mM pM => ?_⟩
        walk_at "gos"
        have : Int.toNat 5 = 5 := rfl
        exact ⟨_, _, _, _, _, _, _, _, _, _, _, _, _, _, rfl, pM.mono (by omega), mM.tb _ (kL.tb _ tK)⟩
    · rintro σ H2 ⟨v2, v3, v4, v5, v6, v7, v8, v9, v10, v11, v12, v13, v14, v15, rfl, p2, t2⟩
      clear p1 k1 tb1 p2 t2
      walk_at "gos"
      rename_i r1 H3 n1 d1 nn k3 i3 low
      obtain ⟨g1, g2⟩ := low.self (by decide) (by simp)
      subst g1 g2
      have i3' : IsQ K H3 r1 (Rat.divInt 1 2) 12 := isQ_of i3 (by decide) (by decide) ((G.Bd.lit 1).mono (by decide)) ((G.Bd.lit 2).mono (by decide))
      refine mk_PQ (q := Rat.divInt 1 2) (r := 1) (m := 12) (l := 12) (.of_q i3') (.inr ⟨1, rfl, rfl, by show Int.natAbs 1 < 2 ^ 12; decide⟩) ⟨by decide +kernel, by decide +kernel, by decide +kernel, by decide +kernel, by decide +kernel, by decide, by decide, by decide, by decide⟩ fun hf a b H4 n4 k4 ip => ?_
      have ik : IsK K H4 hf 1 2 1 1 := ⟨_, _, _, _, _, _, ip, by decide +kernel, by decide +kernel, by decide +kernel, by decide +kernel, by decide, by decide⟩
      clear ip n4 k4 i3' i3 nn k3
      walk_at "gos"
      rename_i la H5 n5 k5 e5 ta H6 n6 k6 e6
      refine shows_t (ns := [1, 2]) (os := [0, 2, 1]) (ik.kp (k5.trans k6)) (.inl (k6 _ _ e5)) e6 ⟨by decide, by decide⟩ (by decide) (bd_s (by decide)) end_1 fun H7 k7 => ?_
      have j7 := ik.kp (k5.trans (k6.trans k7))
      clear ik n5 k5 e5 n6 k6 e6 k7
      walk_at "gos"
      rename_i la H5 n5 k5 e5 ta H6 n6 k6 e6
      refine shows_f (ns := [1, 2]) (os := [0, 1, 2]) (j7.kp (k5.trans k6)) (.inl (k6 _ _ e5)) e6 ⟨by decide, by decide⟩ (by decide) (bd_s (by decide)) end_2 fun H8 k8 => ?_
      have j8 := j7.kp (k5.trans (k6.trans k8))
      clear j7 n5 k5 e5 n6 k6 e6 k8
      walk_at "gos"
      rename_i la H5 n5 k5 e5 ta H6 n6 k6 e6
      refine shows_t (ns := []) (os := [0]) (j8.kp (k5.trans k6)) (.inl (k6 _ _ e5)) e6 ⟨by decide, by decide⟩ (by decide) (bd_s (by decide)) end_3 fun H9 k9 => ?_
      clear j8 n5 k5 e5 n6 k6 e6 k9
      walk_at "gos"
      rename_i la HA nA kA eA r1 HB c1 d1 nB kB iB low1 r2 HC c2 d2 nC kC iC low2
      obtain ⟨g1, g2⟩ := low1.self (by decide) (by simp)
      subst g1 g2
      obtain ⟨g1, g2⟩ := low2.self (by decide) (by simp)
      subst g1 g2
      have q1 := isQ_of (iB.kp kC) (by decide) (by decide) ((G.Bd.lit 1).mono (by decide)) ((G.Bd.lit 49).mono (by decide))
      have q2 := isQ_of iC (by decide) (by decide) ((G.Bd.lit 1).mono (by decide)) ((G.Bd.lit 48).mono (by decide))
      refine mk_PQ (q := Rat.divInt 1 49) (r := Rat.divInt 1 48) (m := 12) (l := 12) (.of_q q1) (.of_q q2) ⟨by decide +kernel, by decide +kernel, by decide +kernel, by decide +kernel, by decide +kernel, by decide, by decide, by decide, by decide⟩ fun hp a b HD nD kD ip => ?_
      have ik : IsK K HD hp 1 49 1 48 := ⟨_, _, _, _, _, _, ip, by decide +kernel, by decide +kernel, by decide +kernel, by decide +kernel, by decide, by decide⟩
      have eD := (kB.trans (kC.trans kD)) _ _ eA
      clear ip nD kD q1 q2 iB iC nA kA eA nB kB nC kC
      walk_at "gos"
      rename_i lb H5 n5 k5 e5 ta H6 n6 k6 e6
      refine shows_t (ns := [48]) (os := [0, 48]) (ik.kp (k5.trans k6)) (.inl (k6 _ _ e5)) e6 ⟨by decide, by decide⟩ (by decide) (bd_s (by decide)) end_4 fun HE kE => ?_
      have eE := (k5.trans (k6.trans kE)) _ _ eD
      clear ik eD n5 k5 e5 n6 k6 e6 kE
      walk_at "gos"
      rename_i HF mF eF r1 HB c1 d1 nB kB iB low1 r2 HC c2 d2 nC kC iC low2
      obtain ⟨g1, g2⟩ := low1.self (by decide) (by simp)
      subst g1 g2
      obtain ⟨g1, g2⟩ := low2.self (by decide) (by simp)
      subst g1 g2
      have q1 := isQ_of (iB.kp kC) (by decide) (by decide) ((G.Bd.lit 1).mono (by decide)) ((G.Bd.lit 50).mono (by decide))
      have q2 := isQ_of iC (by decide) (by decide) ((G.Bd.lit 1).mono (by decide)) ((G.Bd.lit 49).mono (by decide))
      refine mk_PQ (q := Rat.divInt 1 50) (r := Rat.divInt 1 49) (m := 12) (l := 12) (.of_q q1) (.of_q q2) ⟨by decide +kernel, by decide +kernel, by decide +kernel, by decide +kernel, by decide +kernel, by decide, by decide, by decide, by decide⟩ fun hp a b HD nD kD ip => ?_
      have ik : IsK K HD hp 1 50 1 49 := ⟨_, _, _, _, _, _, ip, by decide +kernel, by decide +kernel, by decide +kernel, by decide +kernel, by decide, by decide⟩
      have eD := (kB.trans (kC.trans kD)) _ _ eF
      clear ip nD kD q1 q2 iB iC eF nB kB nC kC
      walk_at "gos"
      rename_i lb H5 n5 k5 e5 ta H6 n6 k6 e6
      have no : NoNum H6 (.ref lb) := .inr ⟨_, _, [false], rfl, ⟨.inl (k6 _ _ e5), by decide, rfl, elt_c (.inl ⟨_, rfl, by decide⟩) elt_n⟩, rfl⟩
      refine shows_no (ik.kp (k5.trans k6)) no fun HE kE => ?_
      have eE := (k5.trans (k6.trans kE)) _ _ eD
      clear ik eD n5 k5 e5 n6 k6 e6 kE no
      walk_at "gos"
      rename_i HG mG eG lb HI nI kI eI
      have sh : SeqAt.shaped (.list [.bool true, .bool false, .bool true, .bool true, .bool false]) = true := by decide +kernel
      have da : ∀ {H : Hp} {a : Addr}, H a = some (.lst [V.bl true, V.bl false, V.bl true, V.bl true, V.bl false]) → Dp K H (.ref a) (.list [.bool true, .bool false, .bool true, .bool true, .bool false]) := fun h => .lst (.of h) (.cons (.bl _) (.cons (.bl _) (.cons (.bl _) (.cons (.bl _) (.cons (.bl _) .nil)))))
      refine G.eq_dd (da (kI _ _ eG)) (da eI) sh sh ?_
      rw [SeqAt.eqv_refl _ (SeqAt.canLay_of_shaped sh)]
      walk_at "gos"
      refine ⟨rfl, fun pw HJ nJ kJ ik => ?_⟩
      walk_at "gos"
      rename_i t1 HM nM kM eM t2 HN nN kN eN
      refine shows_f (ns := [2]) (os := [0, 2]) (ik.kp (kM.trans kN)) (.inr (kN _ _ eM)) eN ⟨by decide, by decide⟩ (by decide) (bd_s (by decide)) end_5 fun HO' kO => ?_
      walk_at "gos"
      refine is_blF ?_
      exact q _
end
end Lw

namespace Lw
open PySem PySem.Spec PyProof.Rows L2
/-! ### the tables, for the end -/
abbrev tabDefs : List Str := ["_law_kinds_right"]
section
variable {P : Program} [hP : G.SupP P "/claim/cut.py"] {w : World} {K : PySem.W.Frag} {mg : Str → Option Value} {base : Heap} {H : Hp} {a : Addr} {ns : List Int}
theorem tab_facts (T : Tx K mg) : ∀ x ∈ tabDefs, G.TabF K x (He.ga K x) := fun x hx => by
  simp only [List.mem_cons, List.not_mem_nil, or_false] at hx
  subst hx
  exact tf_law_kinds_right T
theorem law_tabs (T : Tx K mg) (tb : ∀ x ∈ tabDefs, LamX.TabB base mg (G.cA K (He.ga K x)) (G.pA K (He.ga K x))) : G.FnG P w K mg base CX0 14 (a_law K) (G.fdOf K (a_law K)) ["_law_script"] (sp_law K) := (ok_law T (tb _ (by simp))).mono (by decide)
theorem law_sp (hS : SqL K H a (ns.map V.int)) (le : ns.length ≤ 63) (ht : ∀ x ∈ tabDefs, G.TabP H (G.pA K (He.ga K x))) : sp_law K [.ref a] H (fun v _ => v = .bl true) fun _ _ _ => False := ⟨a, ns, rfl, hS, le, ht _ (by simp), fun _ => rfl⟩
end
end Lw

namespace Lw
open PySem PySem.Spec PyProof.Rows L2
theorem facts {P : Program} [hP : G.SupP P "/claim/cut.py"] {w : World} {K : PySem.W.Frag} {h : Heap} {mg : Str → Option Value} {u : Addr} (X : K.In h) (N : h.Ns mainGlobals mg) (hfa : mg ("law" : Str) = some (.ref u)) (c : G.SaysX exs fns K) :
    ∃ fd : FuncData, (∀ x ∈ tabDefs, G.TabF K x (He.ga K x)) ∧ (∀ (s : Shared) (v : Value), BindsTo s fd ⟨[v], []⟩ [("_law_script", v)]) ∧ ∀ base : Heap, K.In base → base.Ns mainGlobals mg → (∀ x ∈ tabDefs, LamX.TabB base mg (G.cA K (He.ga K x)) (G.pA K (He.ga K x))) → G.FnG P w K mg base CX0 14 u fd ["_law_script"] (sp_law K) := by
  have T : Tx K mg := G.Txt.mk' X N c
  have e := hfa.symm.trans (gl_law T)
  cases e
  have b := FunD.bindsA (ps := ["_law_script"]) (F_law T) fun _ _ _ _ _ _ us hl => match us, hl with | [_], _ => rfl
  exact ⟨_, tab_facts T, fun s v => b s [v] rfl, fun base _ _ tb => law_tabs T tb⟩
end Lw
open PySem PySem.W PySem.Calls PyProof.Rows
theorem PySem.Challenge.cw_anyfifth_k92_rings_looked_at_holds : PySem.Challenge.rw_anyfifth_k92_rings_looked_at.Holds := by
  haveI hP : G.SupP (PySem.Challenge.rw_anyfifth_k92_rings_looked_at).prog "/claim/cut.py" := ⟨by decide +kernel⟩
  w_on; o_law
  refine HandSHeadRun.head_any (r := OpenLaw.row PySem.Challenge.rw_anyfifth_k92_rings_looked_at) (q := view (OpenLaw.row PySem.Challenge.rw_anyfifth_k92_rings_looked_at).prog [47, 48]) (H := Lw.hk) (ob := Lw.ob) (M := 20000) (loose := (("_wall" : Str) :: ("is_integer" : Str) :: ("is_between" : Str) :: ("FifthError" : Str) :: ("BadInput" : Str) :: ("Refused" : Str) :: ("BadRatio" : Str) :: ("BadFifth" : Str) :: ("BadPiece" : Str) :: ("BadText" : Str) :: ("NoDivisor" : Str) :: ("FIGURES" : Str) :: ("common_divisor" : Str) :: ("figures_in" : Str) :: ("integer_in" : Str) :: ("MOST_FIGURES" : Str) :: ("parts_of" : Str) :: ("need_divisor" : Str) :: ("Ratio" : Str) :: ("end_in" : Str) :: ("Piece" : Str) :: ("MOST_NUMBER" : Str) :: ("weights" : Str) :: ("are_numbers" : Str) :: ("is_around" : Str) :: ("shows_ring" : Str) :: ("_law_pen" : Str) :: ("_law_draw" : Str) :: ("_law_pick" : Str) :: ("_law_walk" : Str) :: ("_law_piece" : Str) :: ("_law_pair_at" : Str) :: ("_law_meeting" : Str) :: ("_law_spot" : Str) :: ("_law_order" : Str) :: ("_law_bent_order" : Str) :: ("_law_heard" : Str) :: ("_law_due" : Str) :: ("_law_numbers" : Str) :: [])) (d := HandSHeadRun.topDef (OpenLaw.row PySem.Challenge.rw_anyfifth_k92_rings_looked_at).prog 48) (kwd := []) Lw.ob_eq
    (by kernel_rfl) (fun s => by kernel_rfl) Lw.run (by kernel_rfl) (by kernel_rfl) (by kernel_rfl) (by rfl) (by first | assumption | decide +kernel) (by decide +kernel) ⟨rfl, rfl, rfl, rfl, rfl, by decide +kernel⟩ ?hw ?hc
  case hw => w_witness2
  case hc =>
    refine G.walk_ofTG (l := PySem.Challenge.rw_anyfifth_k92_rings_looked_at) (n := 63) (k := 14) (x := "_law_script") (CX := L2.CX0) (xs := Lw.tabDefs) rfl (by decide) (by kernel_rfl) ⟨rfl, by decide, by decide⟩ (by decide +kernel) ?F (fun _ _ _ _ z => z)
    intro w mg u h Y N hu
    obtain ⟨K, KX, c⟩ := Y
    have hl : mg ("law" : PySem.Str) = some (.ref u) := by
      have nm : (HandSHeadRun.topDef (OpenLaw.row PySem.Challenge.rw_anyfifth_k92_rings_looked_at).prog 48).name = ("law" : PySem.Str) := by kernel_rfl
      rw [← nm]
      exact hu
    obtain ⟨fd, hf, hb, hF⟩ := Lw.facts (P := (PySem.Challenge.rw_anyfifth_k92_rings_looked_at).prog) (w := w) KX N hl c
    exact ⟨K, fd, Lw.sp_law K, KX, hf, hb, fun H a ns le ht hS => Lw.law_sp hS le ht, hF⟩

