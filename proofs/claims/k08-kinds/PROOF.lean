import PyProof.Rows.All
import Wide.All
import OpenK.AllK
import Wide.FinOn
import KE.KStateDown
import HandS.ForMost
import HandS.Wide
import HandS.IsInst
import HandS.Defaults
import HandS.Property
import HandS.More
import HandS.Style
import HandS.ClsMeth
import HandS.SlotsOwn
import HandS.Head0
import HandS.Head1
import HandS.Head2
import HandS.HeadEnd
import HandS.HeadHook1
import HandS.HeadHook2
import HandS.HeadNt
import PySem.Challenge.RW_anyfifth_k08_whole_kinds_of_fifths
set_option Elab.async false
set_option linter.all false
set_option maxRecDepth 100000
set_option maxHeartbeats 4000000
/-! G: own layer over HandS: heap relations, general operators, step lemmas, a stepping line, the head's facts as Bools. -/
namespace G
open PySem PySem.Spec PyProof.Rows L2

/-! ### heaps -/
/-- all that was tracked is as it was -/
def Kp (H H' : Hp) : Prop := ∀ b o, H b = some o → H' b = some o
/-- the list at p was changed, all else is as it was -/
structure Md (p : Addr) (H H' : Hp) : Prop where
  was : ∃ xs, H p = some (.lst xs)
  now : ∃ xs, H' p = some (.lst xs)
  kp : ∀ b o, b ≠ p → H b = some o → H' b = some o
theorem Kp.refl {H : Hp} : Kp H H := fun _ _ h => h
theorem Kp.trans {H H1 H2 : Hp} (a : Kp H H1) (b : Kp H1 H2) : Kp H H2 := fun c o h => b c o (a c o h)
theorem Kp.new {H : Hp} {p : Addr} {o : HO} (h : H p = none) : Kp H (upd H p o) := fun a u e => by rw [upd_ne (ne_of_none e h)]; exact e
theorem Kp.at {H H' : Hp} {a : Addr} {o : HO} (k : Kp H H') (h : H a = some o) : H' a = some o := k a o h
theorem Kp.back {H H' : Hp} {a : Addr} (k : Kp H H') (h : H' a = none) : H a = none := by
  cases e : H a with
  | none => rfl
  | some o => rw [k a o e] at h; cases h
theorem Md.back {p : Addr} {H H' : Hp} {a : Addr} (k : Md p H H') (h : H' a = none) : H a = none := by
  by_cases e : a = p
  · obtain ⟨xs, q⟩ := k.now
    rw [e, q] at h
    cases h
  · cases q : H a with
    | none => rfl
    | some o => rw [k.kp a o e q] at h; cases h
section
variable {H H' H1 H2 : Hp} {p a : Addr} {xs ys : List V} {C dx : Addr} {fs : List (Str × V)} {o u : HO} {ob : Obj} {kvs : List (Key × V)}
theorem Md.ins (k : Md p H H') (h : H a = some (.ins C dx fs)) : H' a = some (.ins C dx fs) := by
  obtain ⟨zs, e⟩ := k.was
  exact k.kp a _ (ne_of h e (fun z => by cases z)) h
theorem Md.tup (k : Md p H H') (h : H a = some (.tup xs)) : H' a = some (.tup xs) := by
  obtain ⟨zs, e⟩ := k.was
  exact k.kp a _ (ne_of h e (fun z => by cases z)) h
theorem Md.frz (k : Md p H H') (h : H a = some (.frz ob u)) : H' a = some (.frz ob u) := by
  obtain ⟨zs, e⟩ := k.was
  exact k.kp a _ (ne_of h e (fun z => by cases z)) h
theorem Md.dK (k : Md p H H') (h : H a = some (.dK kvs)) : H' a = some (.dK kvs) := by
  obtain ⟨zs, e⟩ := k.was
  exact k.kp a _ (ne_of h e (fun z => by cases z)) h
theorem Md.lst (k : Md p H H') (h : H a = some (.lst xs)) (n : a ≠ p) : H' a = some (.lst xs) := k.kp a _ n h
theorem Md.trans (j : Md p H H1) (k : Md p H1 H2) : Md p H H2 := ⟨j.was, k.now, fun b o n h => k.kp b o n (j.kp b o n h)⟩
theorem Md.of_kp (h : H p = some (.lst xs)) (k : Kp H H') : Md p H H' := ⟨⟨xs, h⟩, ⟨xs, k _ _ h⟩, fun b o _ e => k b o e⟩
theorem Md.kp_r (j : Md p H H1) (k : Kp H1 H2) : Md p H H2 := ⟨j.was, let ⟨xs, e⟩ := j.now; ⟨xs, k _ _ e⟩, fun b o n h => k b o (j.kp b o n h)⟩
theorem Kp.md_r (j : Kp H H1) (k : Md p H1 H2) (h : H p = some (.lst xs)) : Md p H H2 := ⟨⟨xs, h⟩, k.now, fun b o n h => k.kp b o n (j b o h)⟩
/-- a new list changes: nothing of before changes -/
theorem Kp.md_new (j : Kp H H1) (k : Md p H1 H2) (h : H p = none) : Kp H H2 := fun b o e => k.kp b o (ne_of_none e h) (j b o e)
theorem Md.md_new {q : Addr} (j : Md p H H1) (k : Md q H1 H2) (h : H q = none) : Md p H H2 := by
  refine ⟨j.was, ?_, fun b o n e => k.kp b o (ne_of_none e h) (j.kp b o n e)⟩
  obtain ⟨xs, e⟩ := j.now
  obtain ⟨zs, w⟩ := j.was
  exact ⟨xs, k.kp p _ (ne_of_none w h) e⟩
theorem Md.upd (h : H p = some (.lst xs)) : Md p H (L2.upd H p (.lst ys)) := ⟨⟨xs, h⟩, ⟨ys, upd_same⟩, fun b o n e => by rw [upd_ne n]; exact e⟩
theorem SqT.kp {K : PySem.W.Frag} (k : Kp H H') (h : SqT K H a xs) : SqT K H' a xs := by
  rcases h with (h | ⟨o, h⟩) | h
  · exact .inl (.inl (k _ _ h))
  · exact .inl (.inr ⟨o, k _ _ h⟩)
  · exact .inr h
theorem SqT.md {K : PySem.W.Frag} (k : Md p H H') (h : SqT K H a xs) : SqT K H' a xs := by
  rcases h with (h | ⟨o, h⟩) | h
  · exact .inl (.inl (k.tup h))
  · exact .inl (.inr ⟨o, k.frz h⟩)
  · exact .inr h
theorem SqL.kp {K : PySem.W.Frag} (k : Kp H H') (h : SqL K H a xs) : SqL K H' a xs := by
  rcases h with (h | ⟨o, h⟩) | h
  · exact .inl (.inl (k _ _ h))
  · exact .inl (.inr ⟨o, k _ _ h⟩)
  · exact .inr h
end
/-- facts about tracked objects: from one heap to a later one, on demand -/
local macro_rules | `(tactic| walk_at "hp") => `(tactic| first
  | assumption
  | (refine SqT.kp (by assumption) ?_; walk_at "hp")
  | (refine SqT.md (by assumption) ?_; walk_at "hp")
  | (refine SqL.kp (by assumption) ?_; walk_at "hp")
  | (refine Kp.at (by assumption) ?_; walk_at "hp")
  | (refine Md.tup (by assumption) ?_; walk_at "hp")
  | (refine Md.ins (by assumption) ?_; walk_at "hp")
  | (refine Md.frz (by assumption) ?_; walk_at "hp")
  | (refine Md.lst (by assumption) ?_ (by first | assumption | (apply Ne.symm; assumption)); walk_at "hp")
  | (refine SqT.of ?_; walk_at "hp")
  | (refine SqL.of ?_; walk_at "hp"))
example {K : PySem.W.Frag} {H H1 H2 : Hp} {a p : Addr} (k : Kp H H1) (m : Md p H1 H2) (h : SqT K H a [.int 1]) : SqT K H2 a [.int 1] := by walk_at "hp"
example {K : PySem.W.Frag} {H H1 H2 : Hp} {a p : Addr} (k : Kp H H1) (m : Md p H1 H2) (h : H a = some (.tup [.int 1])) : ∃ xs, SqT K H2 a xs := by
  refine ⟨?_, ?h⟩
  case h => walk_at "hp"
end G
namespace G
open PySem PySem.Spec PyProof.Rows L2
/-! ### defs of the text: where they stand, the head's facts as Bools -/
/-- the def object at an address -/
def fdOf (K : PySem.W.Frag) (a : Addr) : FuncData := match K.lookup a with
  | some ⟨_, _, .func fd, _⟩ => fd
  | _ => PySem.W.fnOf Str.empty Str.empty { posonlyargs := [], args := [], vararg := none, kwonlyargs := [], kw_defaults := [], kwarg := none, defaults := [] } [] { kind := .function, names := [], isGenerator := false, isCoroutine := false } .none .none .none .none none .none .none
abbrev ExB : Type := PySem.W.Frag → Bool
def obsX (ex : List ExB) (fn : List He5.DefA) (K : PySem.W.Frag) : He.AlD := ((ex.all fun f => f K) && fn.all fun d => d.ok K, fn.map fun d => He5.fnA K (d.at_ K))
def SaysX (ex : List ExB) (fn : List He5.DefA) (K : PySem.W.Frag) : Prop := obsX ex fn K = He5.valA fn
def obsXG (n : Nat) (ex : List ExB) (fn : List He5.DefA) (g : Addr → Option Obj) : He.AlD := obsX ex fn (He.frG g (He5.asA g n))
def hookX (n : Nat) (ex : List ExB) (fn : List He5.DefA) : PySem.W.Hook where
  α := He.AlD
  obs := fun s => obsXG n ex fn s.heap.get?
  val := fun _ => He5.valA fn
  says := fun _ h => ∃ K : PySem.W.Frag, K.In h ∧ SaysX ex fn K
  of := fun _ _ e => ⟨_, He.frG_in, e⟩
  keeps := fun _ _ _ ⟨K, hK, c⟩ k => ⟨K, PySem.W.Frag.In.keeps hK k, c⟩
theorem obsXG_eq {n : Nat} {ex : List ExB} {fn : List He5.DefA} {g : Addr → Option Obj} {s : Shared} (h : ∀ a, g a = s.heap.get? a) : obsXG n ex fn g = (hookX n ex fn).obs s := by
  have e : g = s.heap.get? := funext h
  rw [e] <;> rfl
/-- what a claim's text knows of the written part: its Bools, its defs, the module's names -/
structure Txt (ex : List ExB) (fn : List He5.DefA) (K : PySem.W.Frag) (mg : Str → Option Value) : Prop where
  says : SaysX ex fn K
  glo : ∀ x a, PySem.W.nsIn K mainGlobals x = some (some a) → mg x = some a
  fre : ∀ x, PySem.W.nsIn K mainGlobals x = some none → mg x = none
section
variable {ex : List ExB} {fn : List He5.DefA} {K : PySem.W.Frag} {mg : Str → Option Value}
theorem Txt.mk' {h : Heap} (X : K.In h) (G : h.Ns mainGlobals mg) (c : SaysX ex fn K) : Txt ex fn K mg := ⟨c, fun _ _ e => PySem.W.mg_of X G e, fun _ e => PySem.W.mg_none_of X G e⟩
theorem Txt.fact (T : Txt ex fn K mg) (i : Nat) {f : ExB} (h : ex[i]? = some f := by rfl) : f K = true := by
  have c1 := (He.ba (show ((ex.all fun f => f K) && fn.all fun d => d.ok K) = true from congrArg (fun z : He.AlD => z.1) T.says)).1
  exact List.all_eq_true.mp c1 f (List.mem_of_getElem? h)
theorem Txt.def_ (T : Txt ex fn K mg) (i : Nat) {d : He5.DefA} (h : fn[i]? = some d := by rfl) : L2.FunD K d.name d.qual d.params d.body d.scope (d.dvs K) (d.kws K) (d.at_ K) (fdOf K (d.at_ K)) := by
  have c2 := (He.ba (show ((ex.all fun f => f K) && fn.all fun d => d.ok K) = true from congrArg (fun z : He.AlD => z.1) T.says)).2
  have e : fn.map (fun d => He5.fnA K (d.at_ K)) = fn.map He5.DefA.val := congrArg (fun z : He.AlD => z.2) T.says
  have e2 : (fn.map fun d => He5.fnA K (d.at_ K))[i]? = (fn.map He5.DefA.val)[i]? := by rw [e]
  rw [List.getElem?_map, List.getElem?_map, h] at e2
  obtain ⟨fd, F⟩ := He5.DefA.funD (Option.some.inj e2) (List.all_eq_true.mp c2 d (List.mem_of_getElem? h))
  obtain ⟨oc, od, dV, kV, doc, pm, an, cdv, ct, osl, e3, lk, r⟩ := F.ex
  have e4 : fdOf K (d.at_ K) = fd := by
    unfold fdOf
    rw [lk]
  rw [e4]
  exact F
/-- a global name's object -/
def gloB (x : Str) : ExB := fun K => He.eqO (PySem.W.nsIn K mainGlobals x) (some (some (.ref (He.ga K x))))
def freB (x : Str) : ExB := fun K => He.eqO (PySem.W.nsIn K mainGlobals x) (some none)
theorem Txt.gl (T : Txt ex fn K mg) (i : Nat) (x : Str) (h : ex[i]? = some (gloB x) := by rfl) : mg x = some (.ref (He.ga K x)) := T.glo x _ (He.eqO_ok (T.fact i h))
theorem Txt.fr (T : Txt ex fn K mg) (i : Nat) (x : Str) (h : ex[i]? = some (freB x) := by rfl) : mg x = none := T.fre x (He.eqO_ok (T.fact i h))
/-- an own class: attributes, isinstance, its making -/
def clsB (x : Str) : ExB := fun K => (He.Fa.cls x).ok K
def noatB (x f : Str) : ExB := fun K => (He.Fa.noat x f).ok K
def methB (x m : Str) : ExB := fun K => (He.Fa.meth x m).ok K
def mkrB (x : Str) : ExB := fun K => (He.Fa.mkr x).ok K
/-- what isinstance asks of instances of the class x -/
def isiB (x : Str) : ExB := fun K => He.eqO (PySem.W.findIn K (.ref (He.ga K x)) "__class__") (some (some (.builtin "object.__class__"))) && (He.eqO (PySem.W.specialIn K (.builtin "object.__class__") "__get__") (some (some (.builtin "getset_descriptor.__get__"))) &&
  (decide (PySem.W.takesIn K (.builtin "object.__class__") = some true) && decide (PySem.W.mroIn K (He.ga K x) (.type "object") = some true)))
structure IsiC (K : PySem.W.Frag) (C : Addr) : Prop where
  ha : PySem.W.findIn K (.ref C) "__class__" = some (some (.builtin "object.__class__"))
  hn : PySem.W.specialIn K (.builtin "object.__class__") "__get__" = some (some (.builtin "getset_descriptor.__get__"))
  ht : PySem.W.takesIn K (.builtin "object.__class__") = some true
  hm : PySem.W.mroIn K C (.type "object") = some true
theorem isiB_ok {x : Str} (h : isiB x K = true) : IsiC K (He.ga K x) := by
  obtain ⟨h1, h⟩ := He.ba h
  obtain ⟨h2, h⟩ := He.ba h
  obtain ⟨h3, h4⟩ := He.ba h
  exact ⟨He.eqO_ok h1, He.eqO_ok h2, of_decide_eq_true h3, of_decide_eq_true h4⟩
/-- isinstance(a thing of type t, the class x) is b -/
def kitB (t : PySem.W.Frag → Value) (x : Str) (b : Bool) : ExB := fun K => decide (PySem.W.kitOne K (t K) (.ref (He.ga K x)) = some b)
theorem kitB_ok {t : PySem.W.Frag → Value} {x : Str} {b : Bool} (h : kitB t x b K = true) : PySem.W.kitOne K (t K) (.ref (He.ga K x)) = some b := of_decide_eq_true h
/-- .. with a built-in class -/
def kitTB (t : PySem.W.Frag → Value) (x : String) (b : Bool) : ExB := fun K => decide (PySem.W.kitOne K (t K) (.type x) = some b)
theorem kitTB_ok {t : PySem.W.Frag → Value} {x : String} {b : Bool} (h : kitTB t x b K = true) : PySem.W.kitOne K (t K) (.type x) = some b := of_decide_eq_true h
/-- the class x is read as classes are -/
def rdB (x : Str) : ExB := fun K => PySem.W.readsIn K (He.ga K x) (.type "type") && He.eqO (PySem.W.specialIn K (.ref (He.ga K x)) "__getattribute__") (some (some (.builtin "type.__getattribute__")))
theorem rdB_ok {x : Str} (h : rdB x K = true) : ClX.CRead K (He.ga K x) (.type "type") := ⟨(He.ba h).1, He.eqO_ok (He.ba h).2⟩
/-- a static method -/
def smA (x m : Str) : PySem.W.Frag → Addr := fun K => He5.wf K (He.ga K x) "staticmethod" m
def smB (x m : Str) : ExB := fun K => He5.wrapB K (He.ga K x) "staticmethod" "staticmethod.__get__" m && PySem.W.keepIn K (.ref (smA x m K))
structure SMet (K : PySem.W.Frag) (C : Addr) (mc : Value) (m : Str) (g : Addr) : Prop where
  ex : ∃ (p : Addr) (rest : List Value), PySem.W.findCls K (.ref C) mc m = some (.get (.builtin "staticmethod.__get__") (.ref p) .none (.ref C)) ∧ PySem.W.recIn K p "staticmethod" = some (.ref g :: rest)
  kp : PySem.W.keepIn K (.ref g) = true
theorem smB_ok {x m : Str} (h : smB x m K = true) : SMet K (He.ga K x) (.type "type") m (smA x m K) := by
  obtain ⟨h1, h2⟩ := He.ba h
  obtain ⟨h3, rest, h4⟩ := He5.wrapB_ok h1
  exact ⟨⟨_, rest, h3, h4⟩, h2⟩
/-- a def of the class x for an operator; no class t stands before it -/
def ownB (x m : Str) : ExB := fun K => He.eqO (PySem.W.findIn K (.ref (He.ga K x)) m) (some (some (.ref (He.ma K (He.ga K x) m)))) && PySem.W.isFn K (.ref (He.ma K (He.ga K x) m))
structure OwnM (K : PySem.W.Frag) (C : Addr) (m : Str) (g : Addr) : Prop where
  at_ : PySem.W.findIn K (.ref C) m = some (some (.ref g))
  fn : PySem.W.isFn K (.ref g) = true
theorem ownB_ok {x m : Str} (h : ownB x m K = true) : OwnM K (He.ga K x) m (He.ma K (He.ga K x) m) := ⟨He.eqO_ok (He.ba h).1, (He.ba h).2⟩
def nfB (x : Str) (t : PySem.W.Frag → Value) : ExB := fun K => PySem.W.notFirst K (He.ga K x) (t K)
/-- a property -/
def prA (x m : Str) : PySem.W.Frag → Addr := fun K => He5.wf K (He.ga K x) "property" m
def prB (x m : Str) : ExB := fun K => He.eqO (PySem.W.findIn K (.ref (He.ga K x)) m) (some (some (.ref (He.ma K (He.ga K x) m)))) && (He.eqO (PySem.W.specialIn K (.ref (He.ma K (He.ga K x) m)) "__get__") (some (some (.builtin "property.__get__"))) &&
  (decide (PySem.W.takesIn K (.ref (He.ma K (He.ga K x) m)) = some true) && (match PySem.W.recIn K (He.ma K (He.ga K x) m) "property" with
    | some (.ref _ :: _) => true
    | _ => false)))
theorem prB_ok {x m : Str} (h : prB x m K = true) : L2.PropOf K (He.ga K x) m (He.ma K (He.ga K x) m) (prA x m K) := by
  obtain ⟨h1, h⟩ := He.ba h
  obtain ⟨h2, h⟩ := He.ba h
  obtain ⟨h3, h4⟩ := He.ba h
  refine ⟨He.eqO_ok h1, He.eqO_ok h2, of_decide_eq_true h3, ?_⟩
  unfold prA He5.wf
  split at h4
  · rename_i f r e
    exact ⟨r, by rw [e]⟩
  · cases h4
end
section
variable {P : Program} {w : World} {K : PySem.W.Frag} {mg : Str → Option Value} {base : Heap} {x qual : Str} {st : Stmt} {dvs : List V} {kws : List (Str × V)} {f : Addr} {fd : FuncData}
/-- THE RULE for a def that lets no exception out -/
theorem ok_of {N ps : List Str} {k : Nat} {sp : Sp} (F : L2.FunD K x qual (defArgs st) (defBody st) (defScope st) dvs kws f fd) (S : FnScope N ps (defScope st)) (len : ∀ vs H Q E, sp vs H Q E → vs.length = ps.length)
    (hbody : ∀ (cdv : Value) (A : Around) (outer : List Env) (s : Shared) (H : Hp) (vs : List V) (Q : VK) (E : XK), Room k (A.deeper (envOfC qual (defScope st) s.heap.objs.size f cdv)) → sp vs H Q E →
      ∃ t, PSs (cxOf CX0 P w K mg base N qual (defScope st) f cdv A outer s H E).nox (defBody st) t ∧ t { nx := fun _ H' => Q .non H', rt := Q } (start N vs) H) : FnOk P w K mg base CX0 (k + 1) f fd ps sp :=
  F.ok S len fun cdv A outer s H vs Q E hr hsp => let ⟨t, h, q⟩ := hbody cdv A outer s H vs Q E hr hsp; ⟨t, h.nox, q⟩
end

/-! ### calls of static methods; methods with keywords -/
/-- C.m(..), C an own class, m a static method -/
def tSM (C : Addr) (sp : Sp) (dvs : List V) (E : XK) (ta : TE) (t : TA) : TE := fun σ H Q => ta σ H fun x H1 => x = .ref C ∧ t σ H1 fun vs H2 => sp (vs ++ dvs) H2 Q E
/-- o.m(k = v, ..), o an instance of the class at C -/
def tMethK (C : Addr) (m : Str) (sp : Sp) (gV : List V → List V) (E : XK) (ta : TE) (tk : TA) : TE := fun σ H Q => ta σ H fun x H1 => ∃ a dx fs, x = .ref a ∧ H1 a = some (.ins C dx fs) ∧ fs.lookup m = none ∧ tk σ H1 fun zs H2 => sp (x :: gV zs) H2 Q E
/-- the keywords alone, in the order g -/
structure KB0 (K : PySem.W.Frag) (fd : FuncData) (n : Nat) (ps ks : List Str) (g : List Value → List Value) (gV : List V → List V) : Prop where
  to : ∀ (s : Shared) (us ws : List Value), K.In s.heap → us.length = n → (us ++ g ws).length = ps.length → BindsTo s fd ⟨us, ks.zip ws⟩ (ps.zip (us ++ g ws))
  rel : ∀ {zs : List V} {ws : List Value}, Vals zs ws → Vals (gV zs) (g ws)
section
variable {X : Cx} {CX : CXT} {k : Nat} {C p g : Addr} {mc : Value} {sp : Sp} {E : XK} {o e : Expr} {es : List Expr} {f m : Str} {pos apos : Pos} {ta : TE} {t tk : TA} {pl : Sem Bool} {fd : FuncData} {ps ks : List Str} {dvs : List V} {ds : List Value} {kws : List Keyword}
theorem pe_smeth (he : PE X o ta) (r : ClX.CRead X.K C mc) (c : SMet X.K C mc m g) (F : FnOk X.prog X.w X.K X.mg X.base CX k g fd ps sp) (hr : Room k X.A) (hb : Binds X.K fd ps ds) (hd : Vals dvs ds) (hx : Passes CX X E) (ha : PA X (e :: es) t)
    (hst : starEach (e :: es) X.env = (false, eval e X.env) :: starEach es X.env := by rfl) (hpl : (backTo pos (starEach es X.env)).any (·.1) = false := by rfl)
    (ht : eval (.Call (.Attribute o m apos) (e :: es) [] pos) X.env = (do
      let ov ← eval o X.env
      standAt apos.atName
      let (f, first) ← holding [ov] (getMethod ov m pl)
      callWith pos f first (backTo pos (starEach (e :: es) X.env)) (backToKw pos (keywordEach [] X.env))) := by rfl) :
    PE X (.Call (.Attribute o m apos) (e :: es) [] pos) (tSM C sp dvs E ta t) := by
  refine ⟨fun pins s σ H Q I h => ?_⟩
  refine PySem.W.methodCall_KW (pl := pl) (thn (he.run pins s σ H _ I h) fun u s1 ⟨x, H1, I1, rx, ex, q⟩ => ?_) ht
  subst ex
  obtain rfl : u = Value.ref C := rx
  obtain ⟨p, rest, h1, h2⟩ := c.ex
  refine PySem.W.method_cls I1.kIn r.ga (PySem.W.cls_bind I1.kIn r.rd h1 (wpAny_call (PySem.W.sm_get (s := { s1 with toks := s1.toks + 1 }) I1.kIn h2 (PySem.W.handed_on rfl ?_))))
  have I2 := I1.tok (s1.toks + 1)
  refine PySem.W.callWith_K (first := []) (h₀ := X.base) I2.ok.mod.kin c.kp (thn (ha.run pos pins _ σ H1 _ I2 q) fun us s2 ⟨vs, H2, I3, rv, q2⟩ => ⟨I3.kIn, ?_⟩) hst hpl
  exact run_fn F hr hb hd hx I3 rv q2
theorem run_kb0 {pins : List (Addr × Obj)} {σ : L2.St} {H : Hp} {s : Shared} {Q : VK} {us ws : List Value} {vs zs : List V} {gg : List Value → List Value} {gV : List V → List V} {n : Nat} (F : FnOk X.prog X.w X.K X.mg X.base CX k g fd ps sp) (hr : Room k X.A) (hb : KB0 X.K fd n ps ks gg gV) (hx : Passes CX X E)
    (I : Inv X pins σ H s) (hn : us.length = n) (r : Vals vs us) (rz : Vals zs ws) (h : sp (vs ++ gV zs) H Q E) : wpAny (model X.prog X.w) X.A (call (.ref g) us (ks.zip ws)) (EP X pins σ Q) X.xe s := by
  have r2 := r.append (hb.rel rz)
  have hl : (us ++ gg ws).length = ps.length := by rw [← r2.length]; exact F.len _ _ _ _ h
  refine wpAny_call (codeAny_mono (F.run X.A X.stack s H ⟨us, ks.zip ws⟩ (us ++ gg ws) (vs ++ gV zs) Q E hr I.env0 (hb.to s us ws I.kIn hn hl) r2 h) fun r s' hq => ?_)
  cases r with
  | error e => exact hx pins σ H s e s' I hq
  | ok fl =>
    cases fl with
    | ret u => exact I.after hq
    | next => exact False.elim hq
    | brk => exact False.elim hq
    | cont => exact False.elim hq
theorem pe_methK {gg : List Value → List Value} {gV : List V → List V} (he : PE X o ta) (c : Cls X.K C) (hm : Meth X.K C m g) (F : FnOk X.prog X.w X.K X.mg X.base CX k g fd ps sp) (hr : Room k X.A) (hb : KB0 X.K fd 1 ps ks gg gV) (hx : Passes CX X E) (hkw : PK X kws tk)
    (hall : (backToKw pos (keywordEach kws X.env)).all (·.1.isSome) = true := by rfl) (hks : (backToKw pos (keywordEach kws X.env)).filterMap (·.1) = ks := by rfl)
    (hpl : ((backTo pos (starEach [] X.env)).any (·.1) || (backToKw pos (keywordEach kws X.env)).any (·.1.isNone)) = false := by rfl)
    (ht : eval (.Call (.Attribute o m apos) [] kws pos) X.env = (do
      let ov ← eval o X.env
      standAt apos.atName
      let (f, first) ← holding [ov] (getMethod ov m pl)
      callWith pos f first (backTo pos (starEach [] X.env)) (backToKw pos (keywordEach kws X.env))) := by rfl) :
    PE X (.Call (.Attribute o m apos) [] kws pos) (tMethK C m sp gV E ta tk) := by
  refine ⟨fun pins s σ H Q I h => ?_⟩
  refine PySem.W.methodCall_KW (pl := pl) (thn (he.run pins s σ H _ I h) fun u s1 ⟨x, H1, I1, rx, a, dx, fs, ex, ea, l, q⟩ => ?_) ht
  subst ex
  obtain rfl : u = Value.ref a := rx
  refine getmeth_ok I1 ea c hm l ?_
  refine PySem.W.callWith_KW0 (first := [.ref a]) (h₀ := X.base) I1.ok.mod.kin hm.kp hall (thn (hkw.run pos pins s1 σ H1 _ I1 q) fun ws s2 ⟨zs, H2, I2, rz, q2⟩ => ⟨I2.kIn, ?_⟩) hpl
  rw [hks]
  exact run_kb0 (us := [.ref a]) (vs := [.ref a]) F hr hb hx I2 rfl (.cons rfl .nil) rz q2
end

/-! ### operators that an own class defines -/
section
variable {X : Cx} {CX : CXT} {k : Nat} {C g : Addr} {sp : Sp} {E : XK} {fd : FuncData} {ps : List Str}
/-- x op y (a comparison), x an instance of the class at C whose def for op is at g -/
def rCmpO (K : PySem.W.Frag) (C : Addr) (sp : Sp) (E : XK) : R2 := fun x y H Q => ∃ a dx fs t, x = .ref a ∧ H a = some (.ins C dx fs) ∧ TyX K H y t ∧ PySem.W.notFirst K C t = true ∧ sp [x, y] H Q E
theorem op_cmpO {op : CmpOp} (hop : ∀ a b, compareOp op a b = richCompare op a b) (hs : OwnM X.K C (cmpInfo op).2.1 g) (F : FnOk X.prog X.w X.K X.mg X.base CX k g fd ps sp) (hr : Room k X.A) (hb : Binds X.K fd ps []) (hx : Passes CX X E) :
    OpR X (compareOp op) (rCmpO X.K C sp E) := by
  intro pins s σ H x y v u Q I rx ry h
  obtain ⟨a, dx, fs, t, rfl, ha, ty, hn, q⟩ := h
  cases (show v = Value.ref a from rx)
  obtain ⟨mA, O, _⟩ := ins_get I.hok ha
  obtain ⟨od, J, _⟩ := O.look
  obtain ⟨m, hF⟩ := I.fr
  obtain ⟨Pt, Z, pz, _⟩ := kit_of I ry ty
  rw [hop]
  refine PySem.W.cmp_K (op := op) (tb := t) hr.units0 hF I.ok.mod.kin J (Z.ty _ _ I.kIn pz) hn hs.at_ hs.fn ?_
  refine thn (run_fn (us := [.ref a, u]) (vs := [.ref a, y]) F hr hb .nil hx I (.cons rfl (.cons ry .nil)) q) fun w s' z => ?_
  obtain ⟨z', H', I', rz, qz⟩ := z
  exact SlX.cmpback rz ⟨z', H', I', rz, qz⟩
/-- v in x, x an instance of the class at C with a __contains__ at g -/
def rInO (C : Addr) (neg : Bool) (sp : Sp) (E : XK) : R2 := fun v x H Q => ∃ a dx fs, x = .ref a ∧ H a = some (.ins C dx fs) ∧ sp [x, v] H (fun z H' => ∃ b, z = .bl b ∧ Q (.bl (if neg then !b else b)) H') E
theorem op_inO (hs : OwnM X.K C "__contains__" g) (F : FnOk X.prog X.w X.K X.mg X.base CX k g fd ps sp) (hr : Room k X.A) (hb : Binds X.K fd ps []) (hx : Passes CX X E) : OpR X (compareOp .In) (rInO C false sp E) := by
  intro pins s σ H v x u w Q I rv rx h
  obtain ⟨a, dx, fs, rfl, ha, q⟩ := h
  cases (show w = Value.ref a from rx)
  obtain ⟨mA, O, _⟩ := ins_get I.hok ha
  obtain ⟨od, J, _⟩ := O.look
  obtain ⟨m, hF⟩ := I.fr
  refine PySem.W.in_K hF I.ok.mod.kin J hs.at_ hs.fn (thn (run_fn (us := [.ref a, u]) (vs := [.ref a, v]) F hr hb .nil hx I (.cons rfl (.cons rv .nil)) q) fun r s' z => ?_)
  obtain ⟨z', H', I', rz, b, ez, qz⟩ := z
  subst ez
  cases (show r = Value.bool b from rz)
  exact wpAny_truthy_bool ⟨.bl b, H', I', rfl, qz⟩
theorem op_notInO (hs : OwnM X.K C "__contains__" g) (F : FnOk X.prog X.w X.K X.mg X.base CX k g fd ps sp) (hr : Room k X.A) (hb : Binds X.K fd ps []) (hx : Passes CX X E) : OpR X (compareOp .NotIn) (rInO C true sp E) := by
  intro pins s σ H v x u w Q I rv rx h
  obtain ⟨a, dx, fs, rfl, ha, q⟩ := h
  cases (show w = Value.ref a from rx)
  obtain ⟨mA, O, _⟩ := ins_get I.hok ha
  obtain ⟨od, J, _⟩ := O.look
  obtain ⟨m, hF⟩ := I.fr
  refine PySem.W.notIn_K hF I.ok.mod.kin J hs.at_ hs.fn (thn (run_fn (us := [.ref a, u]) (vs := [.ref a, v]) F hr hb .nil hx I (.cons rfl (.cons rv .nil)) q) fun r s' z => ?_)
  obtain ⟨z', H', I', rz, b, ez, qz⟩ := z
  subst ez
  cases (show r = Value.bool b from rz)
  exact wpAny_truthy_bool ⟨.bl (!b), H', I', rfl, qz⟩
end
end G
namespace G
open PySem PySem.Spec PyProof.Rows L2
/-! ### sizes of ints -/
/-- below 2 ^ n in size -/
def Bd (n : Nat) (x : Int) : Prop := x.natAbs < 2 ^ n
theorem Bd.mono {n m : Nat} {x : Int} (h : Bd n x) (l : n ≤ m) : Bd m x := Nat.lt_of_lt_of_le h (Nat.pow_le_pow_right (by decide) l)
theorem Bd.lit (x : Int) : Bd (x.natAbs.log2 + 1) x := Nat.lt_log2_self
theorem Bd.of_le {n : Nat} {x y : Int} (h : Bd n y) (l : x.natAbs ≤ y.natAbs) : Bd n x := Nat.lt_of_le_of_lt l h
theorem Bd.mul {a b : Nat} {x y : Int} (h : Bd a x) (k : Bd b y) : Bd (a + b) (x * y) := wide_lt h k
theorem Bd.add {a b : Nat} {x y : Int} (h : Bd a x) (k : Bd b y) : Bd (a + b + 1) (x + y) := by
  have h1 := Bd.mono h (show a ≤ a + b by omega)
  have h2 := Bd.mono k (show b ≤ a + b by omega)
  unfold Bd at *
  have e : (2 : Nat) ^ (a + b + 1) = 2 ^ (a + b) + 2 ^ (a + b) := by rw [Nat.pow_succ]; omega
  rw [e]
  omega
theorem Bd.neg {a : Nat} {x : Int} (h : Bd a x) : Bd a (-x) := by unfold Bd at *; rw [Int.natAbs_neg]; exact h
theorem Bd.sub {a b : Nat} {x y : Int} (h : Bd a x) (k : Bd b y) : Bd (a + b + 1) (x - y) := by rw [Int.sub_eq_add_neg]; exact h.add k.neg
theorem Bd.of_range {n : Nat} {x y : Int} (h0 : 0 ≤ x) (h1 : x ≤ y) (k : Bd n y) : Bd n x := Bd.of_le k (by omega)
theorem log_of {a : Nat} {x : Int} (h : Bd a x) : x.natAbs.log2 ≤ a := by
  by_cases e : a = 0
  · subst e
    have : x.natAbs = 0 := by unfold Bd at h; omega
    rw [this]; decide
  · exact Nat.le_of_lt (PySem.Flt.log2_lt_of (by omega) h)
theorem mulOk {a b : Nat} {x y : Int} (h : Bd a x) (k : Bd b y) (l : a + b < 1000000) : IntMulOk x y := CMulW.ok (by
  have := log_of h
  have := log_of k
  unfold CMulW
  omega)
theorem mulOkL {x y : Int} (h : -(2 ^ 64) < x ∧ x < 2 ^ 64) : IntMulOk x y := CMul.ok (.inl h)
theorem mulOkR {x y : Int} (h : -(2 ^ 64) < y ∧ y < 2 ^ 64) : IntMulOk x y := CMul.ok (.inr h)

/-! ### general operators -/
def CDivG (_ j : Int) : Prop := j ≠ 0 ∧ j.natAbs.log2 < 9000
def rAddG (K : PySem.W.Frag) : R2 := fun x y H Q => (rI0 fun i j => .int (i + j)) x y H Q ∨ (∃ i j, x = .str i ∧ y = .str j ∧ i.length + j.length ≤ sizeLine ∧ Q (.str (i ++ j)) H) ∨ rCatT K x y H Q ∨ rCat x y H Q
def rSubG : R2 := rI0 fun i j => .int (i - j)
def rMulG : R2 := fun x y H Q => (rI IntMulOk fun i j => .int (i * j)) x y H Q ∨ rRep x y H Q
def rDivG : R2 := rI CDivG fun i j => .int (i.fdiv j)
def rModG : R2 := rI (fun _ j => j ≠ 0) fun i j => .int (i.fmod j)
def rPowG : R2 := rI CPow fun i j => .int (i ^ j.toNat)
def rNegG : V → Hp → VK → Prop := rU fun i => .int (-i)
def rLtG : R2 := rI0 fun i j => .bl (decide (i < j))
def rLeG : R2 := rI0 fun i j => .bl (decide (i ≤ j))
def rGtG : R2 := rI0 fun i j => .bl (decide (j < i))
def rGeG : R2 := rI0 fun i j => .bl (decide (j ≤ i))
def rEqG (K : PySem.W.Frag) : R2 := fun x y H Q => rEq x y H Q ∨ rEqD K x y H Q
def rNeG (K : PySem.W.Frag) : R2 := fun x y H Q => rNe x y H Q ∨ rNeD K x y H Q
def rIsNG : R2 := fun x y H Q => y = .non ∧ Q (.bl (decide (x = .non))) H
def rNotNG : R2 := fun x y H Q => y = .non ∧ Q (.bl (!decide (x = .non))) H
def rAbsG : List V → Hp → VK → Prop := fun xs H Q => ∃ i, xs = [.int i] ∧ Q (.int (if i < 0 then -i else i)) H
def rIntG : List V → Hp → VK → Prop := fun xs H Q => (∃ i, xs = [.int i] ∧ Q (.int i) H) ∨ ∃ k, xs = [.bl k] ∧ Q (.int (if k then 1 else 0)) H
def rBoolG : List V → Hp → VK → Prop := fun xs H Q => (∃ i, xs = [.int i] ∧ Q (.bl (i != 0)) H) ∨ ∃ k, xs = [.bl k] ∧ Q (.bl k) H
def rLenG (K : PySem.W.Frag) : List V → Hp → VK → Prop := fun xs H Q => (∃ p ys, xs = [.ref p] ∧ (SqL K H p ys ∨ SqT K H p ys) ∧ Q (.int ys.length) H) ∨ ∃ z, xs = [.str z] ∧ z.length ≤ sizeLine ∧ Q (.int z.length) H
def rListG (K : PySem.W.Frag) : List V → Hp → VK → Prop := fun xs H Q => ∃ p ys, xs = [.ref p] ∧ (SqL K H p ys ∨ SqT K H p ys) ∧ ∀ l, H l = none → Q (.ref l) (upd H l (.lst ys))
def rIsiG (K : PySem.W.Frag) : List V → Hp → VK → Prop := rIsi K
def rSlG (K : PySem.W.Frag) : V → Option Int → Option Int → Hp → VK → Prop := fun x lo hi H Q => rSlL K x lo hi H Q ∨ rSlT K x lo hi H Q ∨ rSlS x lo hi H Q
section
variable {X : Cx}
theorem op_addG : OpR X (binaryOp .Add) (rAddG X.K) := op_add.or (op_add_str.or (op_catT.or op_cat))
theorem op_subG : OpR X (binaryOp .Sub) rSubG := op_sub
theorem op_mulG : OpR X (binaryOp .Mult) rMulG := OpR.or (opI fun _ _ _ _ _ _ _ hc q => mul_int q hc) op_rep
theorem op_divG : OpR X (binaryOp .FloorDiv) rDivG := opI fun _ _ _ _ _ _ _ hc q => floordiv_int hc.1 q (.inl (PyProof.noPylong_of_log2 hc.2))
theorem op_modG : OpR X (binaryOp .Mod) rModG := op_modN
theorem op_powG : OpR X (binaryOp .Pow) rPowG := op_pow
theorem un_negG : UnR X (unaryOp .USub) rNegG := un_neg
theorem op_ltG : OpR X (compareOp .Lt) rLtG := op_lt
theorem op_leG : OpR X (compareOp .LtE) rLeG := op_le
theorem op_gtG : OpR X (compareOp .Gt) rGtG := op_gt
theorem op_geG : OpR X (compareOp .GtE) rGeG := op_ge
theorem op_eqG (hu : X.A.units + 64 < cLine) : OpR X (compareOp .Eq) (rEqG X.K) := op_eq.or (op_eqD hu)
theorem op_neG (hu : X.A.units + 64 < cLine) : OpR X (compareOp .NotEq) (rNeG X.K) := op_ne.or (op_neD hu)
theorem op_isNG : OpR X (compareOp .Is) rIsNG := op_isN
theorem op_notNG : OpR X (compareOp .IsNot) rNotNG := op_notN
theorem call_absG : CallR X (.builtin "abs") rAbsG := call_abs
theorem call_intG : CallR X (.type "int") rIntG := call_int1
theorem call_boolG : CallR X (.type "bool") rBoolG := call_bool1
theorem call_lenG : CallR X (.builtin "len") (rLenG X.K) := call_len_seq.or call_len_str
theorem call_listG : CallR X (.type "list") (rListG X.K) := call_list_of
theorem call_isiG : CallR X (.builtin "isinstance") (rIsiG X.K) := call_isi
theorem sl_G : SlR X (rSlG X.K) := sl_list.or (sl_tup.or sl_str)
end

/-! ### step lemmas -/
def ParK (i j : Nat) (vs : List V) (σ : L2.St) (H1 : Hp) (n : L2.St → Hp → Prop) : Prop := ∃ v w, vs = [v, w] ∧ n ((σ.set i (some v)).set j (some w)) H1
def SFldK (K : PySem.W.Frag) (f : Str) (x y : V) (H : Hp) (R : Hp → Prop) : Prop := ∃ a C dx fs, x = .ref a ∧ H a = some (.ins C dx fs) ∧ Cls K C ∧ NoAttr K C f ∧ fs.length < 1000 ∧ R (upd H a (.ins C dx (putF f y fs)))
def BmK (K : PySem.W.Frag) (T : String) (x : V) (H : Hp) (P : Prop) : Prop := tyV K T x H ∧ P
section
variable {K : PySem.W.Frag} {σ σ' : L2.St} {H : Hp} {Q : VK} {v x y : V} {i : Nat} {ta tb tc te to ti : TE} {tt uu : TT} {t u ts : TS} {tl : TA} {n : L2.St → Hp → Prop} {r : VK} {b c : L2.St → Hp → Prop} {a p : Addr} {xs ys : List V} {k j : Int} {bb : Bool}
theorem st_var (h : σ[i]? = some (some v)) (q : Q v H) : tVar i σ H Q := ⟨v, h, q⟩
theorem st_c (q : Q v H) : tC v σ H Q := q
theorem st_op {rr : R2} (q : ta σ H fun x H1 => tb σ H1 fun y H2 => rr x y H2 Q) : tOp rr ta tb σ H Q := q
theorem st_un {rr : V → Hp → VK → Prop} (q : ta σ H fun x H1 => rr x H1 Q) : tUn rr ta σ H Q := q
theorem st_test {R : Bool → Hp → Prop} (q : te σ H fun x H' => ∃ k, x = .bl k ∧ R k H') : tTest te σ H R := q
theorem st_B {R : Bool → Hp → Prop} (q : te σ H fun x H' => ∃ k, x = .bl k ∧ R k H') : tB te σ H R := q
theorem st_exbl {R : Bool → Hp → Prop} (q : R bb H) : ∃ k, V.bl bb = V.bl k ∧ R k H := ⟨bb, rfl, q⟩
theorem st_exblP {R : Bool → Prop} (q : R bb) : ∃ k, V.bl bb = V.bl k ∧ R k := ⟨bb, rfl, q⟩
theorem st_and {R : Bool → Hp → Prop} (q : tt σ H fun c H1 => if c = true then uu σ H1 R else R false H1) : tAnd tt uu σ H R := q
theorem st_or {R : Bool → Hp → Prop} (q : tt σ H fun c H1 => if c = true then R true H1 else uu σ H1 R) : tOr tt uu σ H R := q
theorem st_not {R : Bool → Hp → Prop} (q : tt σ H fun c H1 => R (!c) H1) : tNot tt σ H R := q
theorem st_andV (q : ta σ H fun x H1 => ∃ c, x = .bl c ∧ if c = true then tb σ H1 Q else Q (.bl false) H1) : tAndV ta tb σ H Q := q
theorem st_orV (q : ta σ H fun x H1 => ∃ c, x = .bl c ∧ if c = true then Q (.bl true) H1 else tb σ H1 Q) : tOrV ta tb σ H Q := q
theorem st_notV (q : ta σ H fun x H1 => ∃ c, x = .bl c ∧ Q (.bl (!c)) H1) : tNotV ta σ H Q := q
theorem st_ifE (q : tt σ H fun c H1 => if c = true then ta σ H1 Q else tb σ H1 Q) : tIf tt ta tb σ H Q := q
theorem st_ite {A B : Prop} (h1 : bb = true → A) (h2 : bb = false → B) : if bb = true then A else B := by
  cases bb with
  | true => rw [if_pos rfl]; exact h1 rfl
  | false => rw [if_neg Bool.false_ne_true]; exact h2 rfl
theorem st_iteT {A B : Prop} (h : A) : if true = true then A else B := by rw [if_pos rfl]; exact h
theorem st_iteF {A B : Prop} (h : B) : if false = true then A else B := by rw [if_neg Bool.false_ne_true]; exact h
theorem st_chain {r1 r2 : R2} (q : ta σ H fun x H1 => tb σ H1 fun y H2 => r1 x y H2 fun z H3 => ∃ k, z = .bl k ∧ (if k = true then tc σ H3 fun w' H4 => r2 y w' H4 Q else Q (.bl false) H3)) : tChain r1 r2 ta tb tc σ H Q := q
theorem st_nil {R : List V → Hp → Prop} (q : R [] H) : tNil σ H R := q
theorem st_cons {R : List V → Hp → Prop} (q : ta σ H fun x H1 => tl σ H1 fun xs H2 => R (x :: xs) H2) : tCons ta tl σ H R := q
/-- a new tuple, a new list -/
def TupK (xs : List V) (H : Hp) (Q : VK) : Prop := xs.length ≤ sizeLine ∧ ∀ p, H p = none → Q (.ref p) (upd H p (.tup xs))
def LstK (xs : List V) (H : Hp) (Q : VK) : Prop := xs.length ≤ sizeLine ∧ ∀ p, H p = none → Q (.ref p) (upd H p (.lst xs))
theorem st_tup (q : tl σ H fun xs H1 => TupK xs H1 Q) : tTup tl σ H Q := q
theorem st_lst (q : tl σ H fun xs H1 => LstK xs H1 Q) : tLst tl σ H Q := q
theorem sz1000 {n : Nat} (h : n ≤ 1000) : n ≤ sizeLine := Nat.le_trans h (by decide)
theorem st_tupK (h : xs.length ≤ 1000) (q : ∀ p H', H p = none → Kp H H' → H' p = some (.tup xs) → Q (.ref p) H') : TupK xs H Q := ⟨sz1000 h, fun p e => q p _ e (Kp.new e) upd_same⟩
theorem st_lstK (h : xs.length ≤ 1000) (q : ∀ p H', H p = none → Kp H H' → H' p = some (.lst xs) → Q (.ref p) H') : LstK xs H Q := ⟨sz1000 h, fun p e => q p _ e (Kp.new e) upd_same⟩
/-- calls -/
theorem st_call {sp : Sp} {E : XK} (q : tl σ H fun vs H1 => sp vs H1 Q E) : tCall sp [] E tl σ H Q := by
  unfold tCall
  simp only [List.append_nil]
  exact q
theorem st_sm {C : Addr} {sp : Sp} {E : XK} (q : tl σ H fun vs H1 => sp vs H1 Q E) : tSM C sp [] E (tC (.ref C)) tl σ H Q := by
  refine ⟨rfl, ?_⟩
  simp only [List.append_nil]
  exact q
theorem st_cb {R : List V → Hp → VK → Prop} (q : tl σ H fun vs H1 => R vs H1 Q) : tCB R tl σ H Q := q
/-- what a method's call asks of its receiver -/
def RecvK (C : Addr) (m : Str) (x : V) (H : Hp) (R : Prop) : Prop := ∃ a dx fs, x = .ref a ∧ H a = some (.ins C dx fs) ∧ fs.lookup m = none ∧ R
theorem st_meth {C : Addr} {m : Str} {sp : Sp} {E : XK} (q : ta σ H fun x H1 => RecvK C m x H1 (tl σ H1 fun vs H2 => sp (x :: vs) H2 Q E)) : tMeth C m sp [] E ta tl σ H Q := by
  unfold tMeth
  simp only [List.append_nil]
  exact q
theorem st_methK {C : Addr} {m : Str} {sp : Sp} {E : XK} {gV : List V → List V} {tk : TA} (q : ta σ H fun x H1 => RecvK C m x H1 (tk σ H1 fun zs H2 => sp (x :: gV zs) H2 Q E)) : tMethK C m sp gV E ta tk σ H Q := q
theorem st_recv {C dx : Addr} {m : Str} {fs : List (Str × V)} {R : Prop} (h : H a = some (.ins C dx fs)) (l : fs.lookup m = none) (q : R) : RecvK C m (.ref a) H R := ⟨a, dx, fs, rfl, h, l, q⟩
/-- an attribute -/
def FldK (K : PySem.W.Frag) (f : Str) (x : V) (H : Hp) (Q : VK) : Prop := ∃ a C dx fs v, x = .ref a ∧ H a = some (.ins C dx fs) ∧ Cls K C ∧ NoAttr K C f ∧ fs.lookup f = some v ∧ Q v H
theorem st_fld {f : Str} (q : ta σ H fun x H1 => FldK K f x H1 Q) : tFld K ta f σ H Q := q
theorem st_fldK {C dx : Addr} {f : Str} {fs : List (Str × V)} (h : H a = some (.ins C dx fs)) (c : Cls K C) (na : NoAttr K C f) (l : fs.lookup f = some v) (q : Q v H) : FldK K f (.ref a) H Q := ⟨a, C, dx, fs, v, rfl, h, c, na, l, q⟩
/-! operators on values -/
theorem add_ii (q : Q (.int (k + j)) H) : rAddG K (.int k) (.int j) H Q := .inl ⟨k, j, rfl, rfl, q⟩
theorem add_ss {z w : Str} (h : z.length + w.length ≤ sizeLine) (q : Q (.str (z ++ w)) H) : rAddG K (.str z) (.str w) H Q := .inr (.inl ⟨z, w, rfl, rfl, h, q⟩)
theorem eq_t2 {d : Addr} {i0 i1 j0 j1 : Int} (h1 : SqT K H a [.int i0, .int i1]) (h2 : SqT K H d [.int j0, .int j1]) (q : Q (.bl (decide (i0 = j0 ∧ i1 = j1))) H) : rEqG K (.ref a) (.ref d) H Q :=
  .inr ⟨_, _, .tup h1 (.cons (.int _) (.cons (.int _) .nil)), .tup h2 (.cons (.int _) (.cons (.int _) .nil)), by rfl, by rfl, by
    have e : PyData.eqv (.tuple [.int i0, .int i1]) (.tuple [.int j0, .int j1]) = decide (i0 = j0 ∧ i1 = j1) := by simp [PyData.eqv, PyData.eqvAll, Bool.beq_eq_decide_eq]
    rw [e]
    exact q⟩
theorem ne_t2 {d : Addr} {i0 i1 j0 j1 : Int} (h1 : SqT K H a [.int i0, .int i1]) (h2 : SqT K H d [.int j0, .int j1]) (q : Q (.bl (!decide (i0 = j0 ∧ i1 = j1))) H) : rNeG K (.ref a) (.ref d) H Q :=
  .inr ⟨_, _, .tup h1 (.cons (.int _) (.cons (.int _) .nil)), .tup h2 (.cons (.int _) (.cons (.int _) .nil)), by rfl, by rfl, by
    have e : PyData.eqv (.tuple [.int i0, .int i1]) (.tuple [.int j0, .int j1]) = decide (i0 = j0 ∧ i1 = j1) := by simp [PyData.eqv, PyData.eqvAll, Bool.beq_eq_decide_eq]
    rw [e]
    exact q⟩
theorem in_s2 {z s1 s2 : Str} (h : SqT K H a [.str s1, .str s2]) (q : Q (.bl (decide (z = s1) || decide (z = s2))) H) : rIn K false (.str z) (.ref a) H Q := ⟨a, _, rfl, .inr h, rfl, rfl, by
  have e : inV (.str z) [.str s1, .str s2] = (decide (z = s1) || decide (z = s2)) := by
    have e1 : ∀ w : Str, eqV (.str w) (.str z) = decide (z = w) := fun w => by
      show (w == z) = decide (z = w)
      by_cases e : z = w
      · subst e; simp
      · rw [decide_eq_false e]; exact beq_eq_false_iff_ne.mpr (Ne.symm e)
    simp [inV, e1]
  show Q (.bl (if false = true then !inV (.str z) [.str s1, .str s2] else inV (.str z) [.str s1, .str s2])) H
  rw [if_neg Bool.false_ne_true, e]
  exact q⟩
theorem add_tt {d : Addr} {zs : List V} (h1 : SqT K H a xs) (h2 : SqT K H d ys) (n1 : xs ≠ []) (n2 : ys ≠ []) (l : xs.length + ys.length ≤ 1000) (e : xs ++ ys = zs) (q : ∀ p H', H p = none → Kp H H' → H' p = some (.tup zs) → Q (.ref p) H') : rAddG K (.ref a) (.ref d) H Q :=
  .inr (.inr (.inl ⟨a, d, xs, ys, rfl, rfl, h1, h2, n1, sz1000 l, fun e => absurd e n2, fun _ p n => q p _ n (Kp.new n) (by rw [upd_same, e])⟩))
theorem add_ll {d : Addr} (h1 : H a = some (.lst xs)) (h2 : H d = some (.lst ys)) (l : xs.length + ys.length ≤ 1000) (q : ∀ p H', H p = none → Kp H H' → H' p = some (.lst (xs ++ ys)) → Q (.ref p) H') : rAddG K (.ref a) (.ref d) H Q :=
  .inr (.inr (.inr ⟨a, d, xs, ys, rfl, rfl, h1, h2, sz1000 l, fun p e => q p _ e (Kp.new e) upd_same⟩))
theorem sub_ii (q : Q (.int (k - j)) H) : rSubG (.int k) (.int j) H Q := ⟨k, j, rfl, rfl, q⟩
theorem mul_ii (h : IntMulOk k j) (q : Q (.int (k * j)) H) : rMulG (.int k) (.int j) H Q := .inl ⟨k, j, rfl, rfl, h, q⟩
theorem div_ii {m : Nat} (h0 : 0 < j) (h : Bd m j) (l : m < 9000) (q : Q (.int (k / j)) H) : rDivG (.int k) (.int j) H Q := ⟨k, j, rfl, rfl, ⟨by omega, Nat.lt_of_le_of_lt (log_of h) l⟩, by show Q (.int (k.fdiv j)) H; rw [Int.fdiv_eq_ediv_of_nonneg k (by omega)]; exact q⟩
theorem fdiv_ii {m : Nat} (h0 : j ≠ 0) (h : Bd m j) (l : m < 9000) (q : Q (.int (k.fdiv j)) H) : rDivG (.int k) (.int j) H Q := ⟨k, j, rfl, rfl, ⟨h0, Nat.lt_of_le_of_lt (log_of h) l⟩, q⟩
theorem mod_ii (h0 : 0 < j) (q : Q (.int (k % j)) H) : rModG (.int k) (.int j) H Q := ⟨k, j, rfl, rfl, by omega, by show Q (.int (k.fmod j)) H; rw [Int.fmod_eq_emod_of_nonneg k (by omega)]; exact q⟩
theorem fmod_ii (h0 : j ≠ 0) (q : Q (.int (k.fmod j)) H) : rModG (.int k) (.int j) H Q := ⟨k, j, rfl, rfl, h0, q⟩
theorem pow_ii {z : Int} (h : CPow k j) (e : k ^ j.toNat = z) (q : Q (.int z) H) : rPowG (.int k) (.int j) H Q := ⟨k, j, rfl, rfl, h, by show Q (.int (k ^ j.toNat)) H; rw [e]; exact q⟩
theorem neg_i (q : Q (.int (-k)) H) : rNegG (.int k) H Q := ⟨k, rfl, q⟩
theorem lt_ii (q : Q (.bl (decide (k < j))) H) : rLtG (.int k) (.int j) H Q := ⟨k, j, rfl, rfl, q⟩
theorem le_ii (q : Q (.bl (decide (k ≤ j))) H) : rLeG (.int k) (.int j) H Q := ⟨k, j, rfl, rfl, q⟩
theorem gt_ii (q : Q (.bl (decide (j < k))) H) : rGtG (.int k) (.int j) H Q := ⟨k, j, rfl, rfl, q⟩
theorem ge_ii (q : Q (.bl (decide (j ≤ k))) H) : rGeG (.int k) (.int j) H Q := ⟨k, j, rfl, rfl, q⟩
theorem dec_i : decide (V.int k = V.int j) = decide (k = j) := by by_cases e : k = j <;> simp [e]
theorem dec_s {z w : Str} : decide (V.str z = V.str w) = decide (z = w) := by by_cases e : z = w <;> simp [e]
theorem dec_b {f g : Bool} : decide (V.bl f = V.bl g) = decide (f = g) := by by_cases e : f = g <;> simp [e]
theorem eq_ii (q : Q (.bl (decide (k = j))) H) : rEqG K (.int k) (.int j) H Q := .inl ⟨rfl, by rw [dec_i]; exact q⟩
theorem eq_ss {z w : Str} (q : Q (.bl (decide (z = w))) H) : rEqG K (.str z) (.str w) H Q := .inl ⟨rfl, by rw [dec_s]; exact q⟩
theorem eq_bb {f g : Bool} (q : Q (.bl (decide (f = g))) H) : rEqG K (.bl f) (.bl g) H Q := .inl ⟨rfl, by rw [dec_b]; exact q⟩
theorem ne_ii (q : Q (.bl (!decide (k = j))) H) : rNeG K (.int k) (.int j) H Q := .inl ⟨rfl, by rw [dec_i]; exact q⟩
theorem ne_ss {z w : Str} (q : Q (.bl (!decide (z = w))) H) : rNeG K (.str z) (.str w) H Q := .inl ⟨rfl, by rw [dec_s]; exact q⟩
theorem ne_bb {f g : Bool} (q : Q (.bl (!decide (f = g))) H) : rNeG K (.bl f) (.bl g) H Q := .inl ⟨rfl, by rw [dec_b]; exact q⟩
theorem eq_dd {d e : PyData} (h1 : Dp K H x d) (h2 : Dp K H y e) (s1 : SeqAt.shaped d = true) (s2 : SeqAt.shaped e = true) (q : Q (.bl (PyData.eqv d e)) H) : rEqG K x y H Q := .inr ⟨d, e, h1, h2, s1, s2, q⟩
theorem ne_dd {d e : PyData} (h1 : Dp K H x d) (h2 : Dp K H y e) (s1 : SeqAt.shaped d = true) (s2 : SeqAt.shaped e = true) (q : Q (.bl (!PyData.eqv d e)) H) : rNeG K x y H Q := .inr ⟨d, e, h1, h2, s1, s2, q⟩
theorem isN_n (q : Q (.bl (decide (x = .non))) H) : rIsNG x .non H Q := ⟨rfl, q⟩
theorem notN_n (q : Q (.bl (!decide (x = .non))) H) : rNotNG x .non H Q := ⟨rfl, q⟩
theorem abs_i (q : Q (.int ((k.natAbs : Nat) : Int)) H) : rAbsG [.int k] H Q := ⟨k, rfl, by
  have e : (if k < 0 then -k else k) = ((k.natAbs : Nat) : Int) := by split <;> omega
  rw [e]
  exact q⟩
theorem int_i (q : Q (.int k) H) : rIntG [.int k] H Q := .inl ⟨k, rfl, q⟩
theorem int_b (q : Q (.int (if bb then 1 else 0)) H) : rIntG [.bl bb] H Q := .inr ⟨bb, rfl, q⟩
theorem bool_i (q : Q (.bl (decide (k ≠ 0))) H) : rBoolG [.int k] H Q := .inl ⟨k, rfl, by
  have e : (k != 0) = decide (k ≠ 0) := by by_cases h : k = 0 <;> simp [h]
  rw [e]
  exact q⟩
theorem bool_b (q : Q (.bl bb) H) : rBoolG [.bl bb] H Q := .inr ⟨bb, rfl, q⟩
theorem len_l (h : SqL K H a xs) (q : Q (.int xs.length) H) : rLenG K [.ref a] H Q := .inl ⟨a, xs, rfl, .inl h, q⟩
theorem len_t (h : SqT K H a xs) (q : Q (.int xs.length) H) : rLenG K [.ref a] H Q := .inl ⟨a, xs, rfl, .inr h, q⟩
theorem len_s {z : Str} (h : z.length ≤ sizeLine) (q : Q (.int z.length) H) : rLenG K [.str z] H Q := .inr ⟨z, rfl, h, q⟩
theorem list_l (h : SqL K H a xs) (q : ∀ p H', H p = none → Kp H H' → H' p = some (.lst xs) → Q (.ref p) H') : rListG K [.ref a] H Q := ⟨a, xs, rfl, .inl h, fun p e => q p _ e (Kp.new e) upd_same⟩
theorem list_t (h : SqT K H a xs) (q : ∀ p H', H p = none → Kp H H' → H' p = some (.lst xs) → Q (.ref p) H') : rListG K [.ref a] H Q := ⟨a, xs, rfl, .inr h, fun p e => q p _ e (Kp.new e) upd_same⟩
theorem isi_ty {tv : Value} {cn : String} {bo : Bool} (ty : TyX K H x tv) (h : PySem.W.kitOne K tv (.type cn) = some bo) (q : Q (.bl bo) H) : rIsiG K [x, .ty cn] H Q := ⟨x, .ty cn, tv, .type cn, bo, rfl, .ty cn, ty, h, q⟩
theorem isi_cl {tv : Value} {C : Addr} {bo : Bool} (ty : TyX K H x tv) (h : PySem.W.kitOne K tv (.ref C) = some bo) (q : Q (.bl bo) H) : rIsiG K [x, .ref C] H Q := ⟨x, .ref C, tv, .ref C, bo, rfl, .own C, ty, h, q⟩
theorem ix_l (h : SqL K H a xs) (e : atI xs k = some v) (q : Q v H) : rIx K (.ref a) (.int k) H Q := .inl ⟨a, xs, k, v, rfl, rfl, h, e, q⟩
theorem ix_t (h : SqT K H a xs) (e : atI xs k = some v) (q : Q v H) : rIx K (.ref a) (.int k) H Q := .inr (.inl ⟨a, xs, k, v, rfl, rfl, h, e, q⟩)
/-! slices -/
theorem st_sl {rs : V → Option Int → Option Int → Hp → VK → Prop} {t1 t2 : TO} (q : te σ H fun x H1 => t1 σ H1 fun l H2 => t2 σ H2 fun u H3 => rs x l u H3 Q) : tSl rs te t1 t2 σ H Q := q
theorem st_noPart {R : Option Int → Hp → Prop} (q : R none H) : tNoPart σ H R := q
theorem st_part {R : Option Int → Hp → Prop} (q : te σ H fun x H1 => ∃ i, x = .int i ∧ R (some i) H1) : tPart te σ H R := q
theorem st_exint {R : Int → Hp → Prop} (q : R k H) : ∃ i, V.int k = V.int i ∧ R i H := ⟨k, rfl, q⟩
theorem st_exintP {R : Int → Prop} (q : R k) : ∃ i, V.int k = V.int i ∧ R i := ⟨k, rfl, q⟩
theorem sl_l {lo hi : Option Int} (h : SqL K H a xs) (q : ∀ p H', H p = none → Kp H H' → H' p = some (.lst (cutV xs lo hi)) → Q (.ref p) H') : rSlG K (.ref a) lo hi H Q := .inl ⟨a, xs, rfl, h, fun p e => q p _ e (Kp.new e) upd_same⟩
theorem sl_t {lo hi : Option Int} (h : SqT K H a xs) (l : ¬ (HT.sIx xs.length 0 lo = 0 ∧ HT.sIx xs.length xs.length hi = xs.length)) (q : ∀ p H', H p = none → Kp H H' → H' p = some (.tup (cutV xs lo hi)) → Q (.ref p) H') : rSlG K (.ref a) lo hi H Q :=
  .inr (.inl ⟨a, xs, rfl, h, l, fun p e => q p _ e (Kp.new e) upd_same⟩)
/-! statements -/
theorem st_seq (q : t ⟨u ⟨n, r, b, c⟩, r, b, c⟩ σ H) : tSeq t u ⟨n, r, b, c⟩ σ H := q
theorem st_next (q : n σ H) : tNext ⟨n, r, b, c⟩ σ H := q
theorem st_brk (q : b σ H) : tBreak ⟨n, r, b, c⟩ σ H := q
theorem st_cont (q : c σ H) : tCont ⟨n, r, b, c⟩ σ H := q
theorem st_drop (q : te σ H fun _ H1 => n σ H1) : tDrop te ⟨n, r, b, c⟩ σ H := q
theorem st_ret (q : te σ H r) : tRet te ⟨n, r, b, c⟩ σ H := q
theorem st_retN (q : r .non H) : tRetN ⟨n, r, b, c⟩ σ H := q
theorem st_ifS (q : tt σ H fun e H1 => if e = true then t ⟨n, r, b, c⟩ σ H1 else u ⟨n, r, b, c⟩ σ H1) : tIfS tt t u ⟨n, r, b, c⟩ σ H := q
theorem st_asg {g : TG} (q : te σ H fun x H1 => g x σ H1 n) : tAsg te g ⟨n, r, b, c⟩ σ H := q
theorem st_gname (e : σ.set i (some v) = σ') (q : n σ' H) : gName i v σ H n := by subst e; exact q
theorem st_par {i j : Nat} (q : tl σ H fun vs H1 => ParK i j vs σ H1 n) : tPar i j tl ⟨n, r, b, c⟩ σ H := q
theorem st_parK {i j : Nat} (e : (σ.set i (some x)).set j (some y) = σ') (q : n σ' H) : ParK i j [x, y] σ H n := ⟨x, y, rfl, by rw [e]; exact q⟩
theorem st_gtup {m : Nat} {g : TGs} (h : SqT K H a xs) (l : xs.length = m) (q : g xs σ H n) : gTup K m g (.ref a) σ H n := ⟨a, xs, rfl, h, l, q⟩
theorem st_gcons {g : TG} {gs : TGs} (q : g v σ H fun σ' H' => gs xs σ' H' n) : gCons g gs (v :: xs) σ H n := ⟨v, xs, rfl, q⟩
theorem st_gnil (q : n σ H) : gNil [] σ H n := ⟨rfl, q⟩
theorem st_gsub {g : TSet} (q : to σ H fun o H1 => ti σ H1 fun i H2 => g o i v H2 fun H3 => n σ H3) : gSub to ti g v σ H n := q
theorem st_setL {R : Hp → Prop} {m : Nat} (h : H a = some (.lst xs)) (l : ixN xs.length k = some m) (e : xs.set m v = ys) (q : ∀ H', Md a H H' → H' a = some (.lst ys) → R H') : rSetL (.ref a) (.int k) v H R := ⟨a, xs, k, m, rfl, rfl, h, l, q _ (Md.upd h) (by rw [e]; exact upd_same)⟩
theorem st_setfld {f : Str} (q : te σ H fun y H1 => ta σ H1 fun x H2 => SFldK K f x y H2 (n σ)) : sFld K ta te f ⟨n, r, b, c⟩ σ H := q
theorem st_setfldK {C dx : Addr} {f : Str} {fs : List (Str × V)} {R : Hp → Prop} (h : H a = some (.ins C dx fs)) (cl : Cls K C) (na : NoAttr K C f) (l : fs.length < 1000) (q : R (upd H a (.ins C dx (putF f y fs)))) : SFldK K f (.ref a) y H R := ⟨a, C, dx, fs, rfl, h, cl, na, l, q⟩
/-- xs.append(y) -/
theorem st_bm {T : String} {R : V → List V → Hp → VK → Prop} (q : to σ H fun x H1 => BmK K T x H1 (tl σ H1 fun xs H2 => R x xs H2 Q)) : tBM K T R to tl σ H Q := q
theorem bm_list {P : Prop} (h : H a = some (.lst xs)) (q : P) : BmK K "list" (.ref a) H P := ⟨.inl ⟨rfl, _, SqL.of h⟩, q⟩
theorem append_l (h : H a = some (.lst xs)) (l : xs.length < sizeLine) (q : ∀ H', Md a H H' → H' a = some (.lst (xs ++ [v])) → Q .non H') : rAppend (.ref a) [v] H Q := ⟨a, xs, v, rfl, rfl, h, l, q _ (Md.upd h) upd_same⟩
theorem st_never : False → tNever ⟨n, r, b, c⟩ σ H := False.elim
end
end G
namespace G
open PySem PySem.Spec PyProof.Rows L2
section
variable {X : Cx} {x : Str} {pos : Pos} {C : Addr} {T : String}
theorem pe_ty (hg : Gl X x) (hm : X.mg x = none) (hv : bootBuiltins x = some (.type T)) (hn : x ≠ "__name__" := by decide) (hd : (x == ("__debug__" : Str)) = false := by decide) : PE X (.Name x pos) (tC (.ty T)) := pe_bltn hg hm hv rfl hn hd
theorem pe_cl (hg : Gl X x) (hm : X.mg x = some (.ref C)) (hd : (x == ("__debug__" : Str)) = false := by decide) : PE X (.Name x pos) (tC (.ref C)) := pe_glob hg hm rfl hd
end
end G
namespace G
open PySem PySem.Spec PyProof.Rows L2
theorem st_start {N : List Str} {vs : List V} {t : TS} {D : Ends} {σ' : L2.St} {H : Hp} (e : start N vs = σ') (q : t D σ' H) : t D (start N vs) H := by subst e; exact q
end G
namespace G
open PySem PySem.Spec PyProof.Rows L2
section
variable {K : PySem.W.Frag} {σ σ' : L2.St} {H : Hp} {Q : VK} {tt : TT} {ts : TS} {tl : TA} {n : L2.St → Hp → Prop} {r : VK} {b c : L2.St → Hp → Prop}
def WhK (W : Nat → L2.St → Hp → Prop) (m : Nat) (ts : TS) (r : VK) (n : L2.St → Hp → Prop) (σ : L2.St) (H : Hp) : Prop := ∃ N : L2.St → Hp → Prop, (∀ σ' H', N σ' H' → ∃ m', m' < m ∧ W m' σ' H') ∧ ts ⟨N, r, n, N⟩ σ H
/-- while: W at some measure holds at the start; a turn brings it to a lesser one -/
theorem st_while (W : Nat → L2.St → Hp → Prop) (m0 : Nat) (h0 : W m0 σ H) (hs : ∀ m σ H, W m σ H → tt σ H fun e H1 => if e = true then WhK W m ts r n σ H1 else n σ H1) : tWhile tt ts ⟨n, r, b, c⟩ σ H := ⟨W, ⟨m0, h0⟩, fun m σ H w => hs m σ H w⟩
theorem st_whK {W : Nat → L2.St → Hp → Prop} {m : Nat} (q : ts ⟨fun σ' H' => ∃ m', m' < m ∧ W m' σ' H', r, n, fun σ' H' => ∃ m', m' < m ∧ W m' σ' H'⟩ σ H) : WhK W m ts r n σ H := ⟨_, fun _ _ h => h, q⟩
/-- the making of an instance -/
def MakeK (C : Addr) (sp : Sp) (dvs : List V) (E : XK) (vs : List V) (H : Hp) (Q : VK) : Prop := ∀ x dx, H x = none → H dx = none → dx ≠ x → sp (.ref x :: (vs ++ dvs)) (upd (upd H dx (.own x)) x (.ins C dx [])) (fun v H2 => v = .non ∧ Q (.ref x) H2) E
theorem st_mk {C : Addr} {sp : Sp} {dvs : List V} {E : XK} (q : tl σ H fun vs H1 => MakeK C sp dvs E vs H1 Q) : tMake C sp dvs E tl σ H Q := q
theorem st_mkK {C : Addr} {sp : Sp} {dvs : List V} {E : XK} {vs : List V} (q : ∀ x dx H', H x = none → Kp H H' → H' x = some (.ins C dx []) → sp (.ref x :: (vs ++ dvs)) H' (fun v H2 => v = .non ∧ Q (.ref x) H2) E) : MakeK C sp dvs E vs H Q :=
  fun x dx nx nd ne => q x dx _ nx (fun b o e => by rw [upd_ne (ne_of_none e nx), upd_ne (ne_of_none e nd)]; exact e) upd_same
/-- all but x is kept, x was new: all is kept -/
theorem Kp.init {x : Addr} {H H1 H2 : Hp} (n : H x = none) (k : Kp H H1) (j : ∀ c o, c ≠ x → H1 c = some o → H2 c = some o) : Kp H H2 := fun c o e => j c o (ne_of_none e n) (k c o e)
/-! for: the walked thing -/
def ForK (J : It) (g : TG) (ts : TS) (n : L2.St → Hp → Prop) (r : VK) (b c : L2.St → Hp → Prop) (σ : L2.St) (H1 : Hp) : Prop := ∃ W : Nat → Nat → L2.St → Hp → Prop, (∃ m, W 0 m σ H1) ∧ ∀ i m σ H, W i m σ H →
  (J.stop i H ∧ n σ H) ∨ (J.go i H ∧ ∃ N : L2.St → Hp → Prop, (∀ σ' H', N σ' H' → ∃ m', m' < m ∧ W (i + 1) m' σ' H') ∧ ∀ x H', J.yld i H x H' → g x σ H' fun σ2 H2 => ts ⟨N, r, n, N⟩ σ2 H2)
def ILK (K : PySem.W.Frag) (x : V) (H : Hp) (R : It → Hp → Prop) : Prop := ∃ a, x = .ref a ∧ (∃ xs, SqL K H a xs) ∧ R (Itl K a) H
def R1K (vs : List V) (H : Hp) (R : It → Hp → Prop) : Prop := ∃ j : Int, vs = [.int j] ∧ -(2 ^ 62) ≤ j ∧ j < 2 ^ 62 ∧ R (Itr 0 j.toNat) H
def R2K (vs : List V) (H : Hp) (R : It → Hp → Prop) : Prop := ∃ i j : Int, vs = [.int i, .int j] ∧ (-(2 ^ 62) ≤ i ∧ i < 2 ^ 62 ∧ -(2 ^ 62) ≤ j ∧ j < 2 ^ 62) ∧ R (Itr i (j - i).toNat) H
theorem st_for {wi : TI} {g : TG} (q : wi σ H fun J H1 => ForK J g ts n r b c σ H1) : tFor wi g ts ⟨n, r, b, c⟩ σ H := q
theorem st_iList {te : TE} {R : It → Hp → Prop} (q : te σ H fun x H1 => ILK K x H1 R) : iList K te σ H R := q
theorem st_iLK {a : Addr} {xs : List V} {R : It → Hp → Prop} (h : SqL K H a xs) (q : R (Itl K a) H) : ILK K (.ref a) H R := ⟨a, rfl, ⟨xs, h⟩, q⟩
theorem st_r1 {R : It → Hp → Prop} (q : tl σ H fun vs H1 => R1K vs H1 R) : iRng1 tl σ H R := q
theorem st_r2 {R : It → Hp → Prop} (q : tl σ H fun vs H1 => R2K vs H1 R) : iRng2 tl σ H R := q
theorem st_r1K {j : Int} {R : It → Hp → Prop} (h1 : -(2 ^ 62) ≤ j) (h2 : j < 2 ^ 62) (q : R (Itr 0 j.toNat) H) : R1K [.int j] H R := ⟨j, rfl, h1, h2, q⟩
theorem st_r2K {i j : Int} {R : It → Hp → Prop} (h : -(2 ^ 62) ≤ i ∧ i < 2 ^ 62 ∧ -(2 ^ 62) ≤ j ∧ j < 2 ^ 62) (q : R (Itr i (j - i).toNat) H) : R2K [.int i, .int j] H R := ⟨i, j, rfl, h, q⟩
theorem for_rng {lo : Int} {m : Nat} {g : TG} (Pv : Nat → L2.St → Hp → Prop) (h0 : Pv 0 σ H)
    (hs : ∀ i σ H, i < m → Pv i σ H → g (.int (lo + i)) σ H fun σ2 H2 => ts ⟨Pv (i + 1), r, n, Pv (i + 1)⟩ σ2 H2) (hd : ∀ σ H, Pv m σ H → n σ H) : ForK (Itr lo m) g ts n r b c σ H :=
  for_range (D := ⟨n, r, b, c⟩) Pv h0 hs hd
theorem for_lst {a : Addr} {xs : List V} {g : TG} (Pv : Nat → L2.St → Hp → Prop) (h0 : Pv 0 σ H) (hl : ∀ i σ H, i ≤ xs.length → Pv i σ H → SqL K H a xs)
    (hs : ∀ i x σ H, xs[i]? = some x → Pv i σ H → g x σ H fun σ2 H2 => ts ⟨Pv (i + 1), r, n, Pv (i + 1)⟩ σ2 H2) (hd : ∀ σ H, Pv xs.length σ H → n σ H) : ForK (Itl K a) g ts n r b c σ H :=
  for_list (D := ⟨n, r, b, c⟩) Pv h0 hl hs hd
end
end G
namespace G
open PySem PySem.Spec PyProof.Rows L2
/-- the instance at x was changed -/
def Mi (x : Addr) (H H' : Hp) : Prop := ∀ b o, b ≠ x → H b = some o → H' b = some o
theorem Mi.at {x a : Addr} {H H' : Hp} {o : HO} (k : Mi x H H') (h : H a = some o) (n : a ≠ x) : H' a = some o := k a o n h
theorem Mi.trans {x : Addr} {H H1 H2 : Hp} (j : Mi x H H1) (k : Mi x H1 H2) : Mi x H H2 := fun b o n h => k b o n (j b o n h)
theorem Mi.of_kp {x : Addr} {H H1 : Hp} (j : Kp H H1) : Mi x H H1 := fun b o _ h => j b o h
theorem Kp.mi {x : Addr} {H H1 H2 : Hp} (n : H x = none) (k : Kp H H1) (j : Mi x H1 H2) : Kp H H2 := fun c o e => j c o (ne_of_none e n) (k c o e)
theorem st_setfldM {K : PySem.W.Frag} {C dx a : Addr} {f : Str} {fs : List (Str × V)} {H : Hp} {y : V} {R : Hp → Prop} (h : H a = some (.ins C dx fs)) (cl : Cls K C) (na : NoAttr K C f) (l : fs.length < 1000) (q : ∀ H', Mi a H H' → H' a = some (.ins C dx (putF f y fs)) → R H') : SFldK K f (.ref a) y H R :=
  st_setfldK h cl na l (q _ (fun b o n e => by rw [upd_ne n]; exact e) upd_same)
end G
namespace G
open PySem PySem.Spec PyProof.Rows L2
/-- the dict at p was changed -/
structure MD (p : Addr) (H H' : Hp) : Prop where
  was : ∃ kvs, H p = some (.dK kvs)
  kp : ∀ b o, b ≠ p → H b = some o → H' b = some o
section
variable {K : PySem.W.Frag} {H H' : Hp} {p a : Addr} {xs : List V} {C dx : Addr} {fs : List (Str × V)} {o : HO} {Q : VK} {σ : L2.St}
theorem MD.at (k : MD p H H') (h : H a = some o) (n : H a = some o → a ≠ p) : H' a = some o := k.kp a _ (n h) h
theorem MD.atN {H0 : Hp} (k : MD p H H') (n : H0 p = none) (h0 : H0 a = some o) (h : H a = some o) : H' a = some o := k.kp a _ (ne_of_none h0 n) h
theorem MD.ins (k : MD p H H') (h : H a = some (.ins C dx fs)) : H' a = some (.ins C dx fs) := by
  obtain ⟨zs, e⟩ := k.was
  exact k.kp a _ (ne_of h e (fun z => by cases z)) h
theorem MD.tup (k : MD p H H') (h : H a = some (.tup xs)) : H' a = some (.tup xs) := by
  obtain ⟨zs, e⟩ := k.was
  exact k.kp a _ (ne_of h e (fun z => by cases z)) h
theorem MD.lst (k : MD p H H') (h : H a = some (.lst xs)) : H' a = some (.lst xs) := by
  obtain ⟨zs, e⟩ := k.was
  exact k.kp a _ (ne_of h e (fun z => by cases z)) h
theorem Kp.MD {H1 H2 : Hp} (n : H p = none) (k : Kp H H1) (j : MD p H1 H2) : Kp H H2 := fun c o e => j.kp c o (ne_of_none e n) (k c o e)
/-- a dict display -/
def PairsK (trs : List (TE × TE)) (σ : L2.St) (H : Hp) (R : List (V × V) → Hp → Prop) : Prop := tPairs trs σ H R
def DispK (p : Addr) (ps : List (V × V)) (H : Hp) (Q : VK) : Prop := H p = some (.dK []) ∧ ∃ kvs : List (Key × V), ps = kvs.map (fun kv => (kV kv.1, kv.2)) ∧ kvs.length ≤ 15 ∧ Q (.ref p) (upd H p (.dK (mergeK [] kvs)))
theorem st_disp {trs : List (TE × TE)} (q : ∀ p H1, H p = none → Kp H H1 → H1 p = some (.dK []) → PairsK trs σ H1 fun ps H2 => DispK p ps H2 Q) : tDisp trs σ H Q := fun p e => q p _ e (Kp.new e) upd_same
theorem st_pairsN {R : List (V × V) → Hp → Prop} (q : R [] H) : PairsK [] σ H R := q
theorem st_pairsC {tk tv : TE} {r : List (TE × TE)} {R : List (V × V) → Hp → Prop} (q : tk σ H fun x H1 => tv σ H1 fun y H2 => PairsK r σ H2 fun ps H3 => R ((x, y) :: ps) H3) : PairsK ((tk, tv) :: r) σ H R := q
theorem st_dispS {zs : List (Str × V)} {ps : List (V × V)} (h : H p = some (.dK [])) (e : ps = zs.map fun z => (V.str z.1, z.2)) (l : zs.length ≤ 15) (q : ∀ H1, MD p H H1 → H1 p = some (.dK (mergeK [] (zs.map fun z => ((.inr z.1 : Key), z.2)))) → Q (.ref p) H1) : DispK p ps H Q :=
  ⟨h, zs.map (fun z => ((.inr z.1 : Key), z.2)), by rw [e, List.map_map]; rfl, by rw [List.length_map]; exact l, q _ ⟨⟨_, h⟩, fun b o n k => by rw [upd_ne n]; exact k⟩ upd_same⟩
theorem st_disp3 {s1 s2 s3 : Str} {v1 v2 v3 : V} (h : H p = some (.dK [])) (q : ∀ H1, MD p H H1 → H1 p = some (.dK (mergeK [] [(.inr s1, v1), (.inr s2, v2), (.inr s3, v3)])) → Q (.ref p) H1) : DispK p [(.str s1, v1), (.str s2, v2), (.str s3, v3)] H Q :=
  st_dispS (zs := [(s1, v1), (s2, v2), (s3, v3)]) h rfl (Nat.le_of_ble_eq_true rfl) q
/-- d.get(k, x) -/
def DgK (x : V) (H : Hp) (R : Addr → Prop) : Prop := ∃ a, x = .ref a ∧ IsD H a ∧ R a
def DgR (a : Addr) (y z : V) (H : Hp) (Q : VK) : Prop := ∃ o, DGet H a y o ∧ Q (o.getD z) H
theorem st_dget2 {td ty tx : TE} (q : td σ H fun x H1 => DgK x H1 fun a => ty σ H1 fun y H2 => tx σ H2 fun z H3 => DgR a y z H3 Q) : tDGet2 td ty tx σ H Q := q
theorem st_dgK {kvs : List (Key × V)} {R : Addr → Prop} (h : H a = some (.dK kvs)) (q : R a) : DgK (.ref a) H R := ⟨a, rfl, .inl ⟨kvs, .inl h⟩, q⟩
theorem st_dgS {kvs : List (Key × V)} {s : Str} {z v : V} (h : H a = some (.dK kvs)) (e : (valV kvs (.inr s)).getD z = v) (q : Q v H) : DgR a (.str s) z H Q := ⟨_, .inl ⟨kvs, .inr s, .inl h, rfl, rfl⟩, by rw [e]; exact q⟩
theorem st_dgSs {kvs : List (Key × V)} {s : Str} {z v : V} (h : H a = some (.dK kvs)) (e : valV kvs (.inr s) = some v) (q : Q v H) : DgR a (.str s) z H Q := st_dgS h (by rw [e]; rfl) q
theorem st_dgSn {kvs : List (Key × V)} {s : Str} {z : V} (h : H a = some (.dK kvs)) (e : valV kvs (.inr s) = none) (q : Q z H) : DgR a (.str s) z H Q := st_dgS h (by rw [e]; rfl) q
theorem eq_l2b {d : Addr} {i0 i1 j0 j1 : Bool} (h1 : SqL K H a [.bl i0, .bl i1]) (h2 : SqL K H d [.bl j0, .bl j1]) (q : Q (.bl (decide (i0 = j0 ∧ i1 = j1))) H) : rEqG K (.ref a) (.ref d) H Q :=
  .inr ⟨_, _, .lst h1 (.cons (.bl _) (.cons (.bl _) .nil)), .lst h2 (.cons (.bl _) (.cons (.bl _) .nil)), by rfl, by rfl, by
    have e : PyData.eqv (.list [.bool i0, .bool i1]) (.list [.bool j0, .bool j1]) = decide (i0 = j0 ∧ i1 = j1) := by cases i0 <;> cases i1 <;> cases j0 <;> cases j1 <;> rfl
    rw [e]
    exact q⟩
end
theorem one_units {k : Nat} {A : Around} (r : Room k A) : A.units + 1 < cLine := by have := r.units; omega
/-- all written by keywords but the first n: every parameter is written -/
theorem kb0_of {K : PySem.W.Frag} {x qual : Str} {params : Arguments} {body : List Stmt} {scope : Scope} {kws : List (Str × V)} {f : Addr} {fd : FuncData} (F : FunD K x qual params body scope [] kws f fd) {n : Nat} {ps ks : List Str}
    (hn : ps.length = n + ks.length)
    (h : ∀ (kV doc pm : Value) (an : Option Addr) (cdv ct : Value) (us ws : List Value), us.length = n → ws.length = ks.length → bindArgs (PySem.W.fnOf x qual params body scope .none kV doc pm an cdv ct) ⟨us, ks.zip ws⟩ = pure (ps.zip (us ++ ws))) : KB0 K fd n ps ks id id := by
  obtain ⟨oc, od, dV, kV, doc, pm, an, cdv, ct, osl, rfl, lk, hcd, hD, hK⟩ := F.ex
  rcases hD with ⟨_, rfl⟩ | ⟨e, _⟩
  · exact ⟨fun s us ws _ hu hl => .of_eq (h kV doc pm an cdv ct us ws hu (by rw [List.length_append, hu] at hl; exact (by simp only [id_eq] at hl; omega))), fun r => r⟩
  · exact absurd rfl e
end G

/-! ### own lines (walk_at is the kit's own word with a key: these keys are ours) -/
-- a tracked object in a later heap
local macro_rules | `(tactic| walk_at "hp") => `(tactic| first
  | assumption
  | (refine G.SqT.kp (by assumption) ?_; walk_at "hp")
  | (refine G.SqT.md (by assumption) ?_; walk_at "hp")
  | (refine G.SqL.kp (by assumption) ?_; walk_at "hp")
  | (refine G.Kp.at (by assumption) ?_; walk_at "hp")
  | (refine G.Md.tup (by assumption) ?_; walk_at "hp")
  | (refine G.Md.ins (by assumption) ?_; walk_at "hp")
  | (refine G.Md.frz (by assumption) ?_; walk_at "hp")
  | (refine G.Md.lst (by assumption) ?_ (by first | assumption | (apply Ne.symm; assumption)); walk_at "hp")
  | (refine L2.SqT.of ?_; walk_at "hp")
  | (refine L2.SqL.of ?_; walk_at "hp")
  | (refine G.MD.ins (by assumption) ?_; walk_at "hp")
  | (refine G.MD.tup (by assumption) ?_; walk_at "hp")
  | (refine G.MD.lst (by assumption) ?_; walk_at "hp")
  | (refine G.Md.kp (by assumption) _ _ (by assumption) ?_; walk_at "hp")
  | (refine G.MD.atN (by assumption) (by assumption) ?_ ?_ <;> walk_at "hp"))
-- more rows of "hp": the claim's own
local macro_rules | `(tactic| walk_at "hpx") => `(tactic| fail "hpx")
-- a bound of an int
local macro_rules | `(tactic| walk_at "bd") => `(tactic| first
  | assumption
  | ((with_reducible refine G.Bd.mul ?_ ?_) <;> walk_at "bd")
  | ((with_reducible refine G.Bd.add ?_ ?_) <;> walk_at "bd")
  | ((with_reducible refine G.Bd.sub ?_ ?_) <;> walk_at "bd")
  | ((with_reducible refine G.Bd.neg ?_) <;> walk_at "bd")
  | exact G.Bd.lit _)
local macro_rules | `(tactic| walk_at "bdw") => `(tactic| first | assumption | exact G.Bd.mono (by walk_at "bd") (by first | decide +kernel | omega))
-- a product's room
local macro_rules | `(tactic| walk_at "mu") => `(tactic| first
  | (exact G.mulOk (by walk_at "bd") (by walk_at "bd") (by first | decide +kernel | omega))
  | exact G.mulOkL (by omega)
  | exact G.mulOkR (by omega))
local macro_rules | `(tactic| walk_at "gx") => `(tactic| fail "gx")
-- one step of a reading
local macro_rules | `(tactic| walk_at "g") => `(tactic| first
  | walk_at "gx"
  | ((with_reducible refine G.st_var (v := ?z0) ?h ?_); (case h => rfl))
  | with_reducible refine G.st_c ?_
  | with_reducible refine G.st_op ?_
  | with_reducible refine G.st_un ?_
  | with_reducible refine G.st_seq ?_
  | with_reducible refine G.st_asg ?_
  | ((with_reducible refine G.st_gname (σ' := ?z0) ?e ?_); (case e => (simp only [List.set_cons_zero, List.set_cons_succ]; rfl)))
  | with_reducible refine G.st_test ?_
  | with_reducible refine G.st_B ?_
  | with_reducible refine G.st_exbl ?_
  | with_reducible refine G.st_exblP ?_
  | with_reducible refine G.st_iteT ?_
  | with_reducible refine G.st_iteF ?_
  | with_reducible refine G.st_and ?_
  | with_reducible refine G.st_or ?_
  | with_reducible refine G.st_not ?_
  | with_reducible refine G.st_andV ?_
  | with_reducible refine G.st_orV ?_
  | with_reducible refine G.st_notV ?_
  | with_reducible refine G.st_ifE ?_
  | with_reducible refine G.st_ifS ?_
  | with_reducible refine G.st_nil ?_
  | with_reducible refine G.st_cons ?_
  | with_reducible refine G.st_tup ?_
  | with_reducible refine G.st_lst ?_
  | ((with_reducible refine G.st_tupK ?h ?_); (case h => (simp only [List.length_cons, List.length_nil]; omega)); intro _ _ _ _ _)
  | ((with_reducible refine G.st_lstK ?h ?_); (case h => (simp only [List.length_cons, List.length_nil]; omega)); intro _ _ _ _ _)
  | with_reducible refine G.st_call ?_
  | with_reducible refine G.st_sm ?_
  | with_reducible refine G.st_cb ?_
  | with_reducible refine G.st_meth ?_
  | with_reducible refine G.st_methK ?_
  | with_reducible refine G.st_fld ?_
  | with_reducible refine G.st_chain ?_
  | with_reducible refine G.add_ii ?_
  | with_reducible refine G.sub_ii ?_
  | ((with_reducible refine G.mul_ii ?h ?_); (case h => walk_at "mu"))
  | ((with_reducible refine G.div_ii ?h0 (by walk_at "bd") (by first | decide +kernel | omega) ?_); (case h0 => omega))
  | ((with_reducible refine G.mod_ii ?h0 ?_); (case h0 => omega))
  | ((with_reducible refine G.pow_ii (z := ?z0) ?h ?e ?_); (case h => (refine ⟨?_, ?_, ?_⟩ <;> omega)); (case e => ((simp only [Int.reduceToNat, Int.reducePow]); first | done | rfl)))
  | with_reducible refine G.neg_i ?_
  | with_reducible refine G.lt_ii ?_
  | with_reducible refine G.le_ii ?_
  | with_reducible refine G.gt_ii ?_
  | with_reducible refine G.ge_ii ?_
  | with_reducible refine G.eq_ii ?_
  | with_reducible refine G.eq_ss ?_
  | with_reducible refine G.eq_bb ?_
  | with_reducible refine G.ne_ii ?_
  | with_reducible refine G.ne_ss ?_
  | with_reducible refine G.ne_bb ?_
  | ((with_reducible refine G.eq_t2 (i0 := ?z0) (i1 := ?z1) (j0 := ?z2) (j1 := ?z3) ?h1 ?h2 ?_); (case h1 => walk_at "hp"); (case h2 => walk_at "hp"))
  | ((with_reducible refine G.ne_t2 (i0 := ?z0) (i1 := ?z1) (j0 := ?z2) (j1 := ?z3) ?h1 ?h2 ?_); (case h1 => walk_at "hp"); (case h2 => walk_at "hp"))
  | ((with_reducible refine G.in_s2 (s1 := ?z0) (s2 := ?z1) ?h1 ?_); (case h1 => walk_at "hp"))
  | ((with_reducible refine G.add_tt (xs := ?z0) (ys := ?z1) (zs := ?z2) ?h1 ?h2 ?n1 ?n2 ?l ?e ?_); (case h1 => walk_at "hp"); (case h2 => walk_at "hp"); (case n1 => (intro hz; cases hz)); (case n2 => (intro hz; cases hz)); (case l => (simp only [List.length_cons, List.length_nil]; omega)); (case e => (simp only [List.cons_append, List.nil_append]; rfl)); intro _ _ _ _ _)
  | with_reducible refine G.isN_n ?_
  | with_reducible refine G.notN_n ?_
  | with_reducible refine G.abs_i ?_
  | with_reducible refine G.int_i ?_
  | with_reducible refine G.int_b ?_
  | with_reducible refine G.bool_i ?_
  | with_reducible refine G.bool_b ?_
  | ((with_reducible refine G.len_l (xs := ?z0) ?h ?_); (case h => walk_at "hp"))
  | ((with_reducible refine G.len_t (xs := ?z0) ?h ?_); (case h => walk_at "hp"))
  | ((with_reducible refine G.list_l (xs := ?z0) ?h ?_); (case h => walk_at "hp"); intro _ _ _ _ _)
  | ((with_reducible refine G.list_t (xs := ?z0) ?h ?_); (case h => walk_at "hp"); intro _ _ _ _ _)
  | ((with_reducible refine' G.isi_ty ?ty ?h ?_); (case ty => first | exact .base (.int _) | exact .base (.str _) | exact .base (.bl _) | exact .base .non); (case h => first | exact L2.kit_ty (r := true) (by decide +kernel) | exact L2.kit_ty (r := false) (by decide +kernel) | assumption))
  | ((with_reducible refine G.ix_t (xs := ?z0) (v := ?z1) ?h ?e ?_); (case h => walk_at "hp"); (case e => rfl))
  | ((with_reducible refine G.ix_l (xs := ?z0) (v := ?z1) ?h ?e ?_); (case h => walk_at "hp"); (case e => rfl))
  | with_reducible refine G.st_sl ?_
  | with_reducible refine G.st_noPart ?_
  | with_reducible refine G.st_part ?_
  | with_reducible refine G.st_exint ?_
  | with_reducible refine G.st_exintP ?_
  | ((with_reducible refine G.sl_l (xs := ?z0) ?h ?_); (case h => walk_at "hp"); intro _ _ _ _ _)
  | with_reducible refine G.st_next ?_
  | with_reducible refine G.st_brk ?_
  | with_reducible refine G.st_cont ?_
  | with_reducible refine G.st_drop ?_
  | with_reducible refine G.st_ret ?_
  | with_reducible refine G.st_retN ?_
  | with_reducible refine G.st_par ?_
  | ((with_reducible refine G.st_parK (σ' := ?z0) ?e ?_); (case e => (simp only [List.set_cons_zero, List.set_cons_succ]; rfl)))
  | ((with_reducible refine G.st_gtup (xs := ?z0) ?h ?l ?_); (case h => walk_at "hp"); (case l => rfl))
  | with_reducible refine G.st_gcons ?_
  | with_reducible refine G.st_gnil ?_
  | with_reducible refine G.st_gsub ?_
  | ((with_reducible refine G.st_setL (xs := ?z0) (m := ?z1) (ys := ?z2) ?h ?l ?e ?_); (case h => walk_at "hp"); (case l => rfl); (case e => (simp only [Int.reduceToNat, List.set_cons_zero, List.set_cons_succ]; rfl)); intro _ _ _)
  | with_reducible refine G.st_setfld ?_
  | with_reducible refine G.st_bm ?_
  | ((with_reducible refine G.bm_list (xs := ?z0) ?h ?_); (case h => walk_at "hp"))
  | ((with_reducible refine G.append_l (xs := ?z0) ?h ?l ?_); (case h => walk_at "hp"); (case l => first | omega | assumption); intro _ _ _))
-- dicts
local macro_rules | `(tactic| walk_at "g") => `(tactic| first
  | ((with_reducible refine G.st_disp ?_); intro _ _ _ _ _)
  | with_reducible refine G.st_pairsN ?_
  | with_reducible refine G.st_pairsC ?_
  | ((with_reducible refine G.st_disp3 ?h ?_); (case h => walk_at "hp"); intro _ _ _)
  | with_reducible refine G.st_dget2 ?_
  | ((with_reducible refine G.st_dgK (kvs := ?z0) ?h ?_); (case h => walk_at "hp"))
  | ((with_reducible refine G.st_dgSs (kvs := ?z0) (v := ?z1) ?h ?e ?_); (case h => walk_at "hp"); (case e => rfl))
  | ((with_reducible refine G.st_dgSn (kvs := ?z0) ?h ?e ?_); (case h => walk_at "hp"); (case e => rfl))
  | ((with_reducible refine G.eq_l2b (i0 := ?z0) (i1 := ?z1) (j0 := ?z2) (j1 := ?z3) ?h1 ?h2 ?_); (case h1 => walk_at "hp"); (case h2 => walk_at "hp")))
local macro_rules | `(tactic| walk_at "gl") => `(tactic| first
  | with_reducible refine G.st_whK ?_
  | with_reducible refine G.st_mk ?_
  | with_reducible refine G.st_for ?_
  | with_reducible refine G.st_iList ?_
  | ((with_reducible refine G.st_iLK (xs := ?z0) ?h ?_); (case h => walk_at "hp"))
  | with_reducible refine G.st_r1 ?_
  | with_reducible refine G.st_r2 ?_
  | ((with_reducible refine G.st_r1K ?h1 ?h2 ?_); (case h1 => omega); (case h2 => omega))
  | ((with_reducible refine G.st_r2K ?h ?_); (case h => (refine ⟨?_, ?_, ?_, ?_⟩ <;> omega))))
-- what a test says
local macro_rules | `(tactic| walk_at "gif") => `(tactic| ((with_reducible refine G.st_ite ?_ ?_) <;> (intro hc; (try simp only [decide_eq_true_eq, decide_eq_false_iff_not, Bool.not_eq_true', Bool.not_eq_false', Bool.and_eq_true, Bool.or_eq_true, Bool.and_eq_false_iff, Bool.or_eq_false_iff, Bool.not_true, Bool.not_false, bne_iff_ne, beq_iff_eq, ne_eq, not_true_eq_false, not_false_eq_true, Bool.false_eq_true, Bool.true_eq_false, reduceCtorEq] at hc); (try (exfalso; first | assumption | contradiction | omega)))))
local macro_rules | `(tactic| walk_at "start") => `(tactic| (dsimp only [L2.cxOf]; (with_reducible refine G.st_start (σ' := ?z0) ?e ?_); (case e => (unfold L2.start; simp only [List.map_cons, List.map_nil, List.length_cons, List.length_nil, Nat.reduceAdd, Nat.reduceSub, List.replicate, List.cons_append, List.nil_append]; rfl))))
-- as far as it goes
local macro_rules | `(tactic| walk_at "go") => `(tactic| repeat' first | walk_at "g" | walk_at "gl")
local macro_rules | `(tactic| walk_at "gob") => `(tactic| repeat' first | walk_at "g" | walk_at "gl" | walk_at "gif")
-- a way that cannot be
local macro_rules | `(tactic| walk_at "no") => `(tactic| first
  | (exfalso; omega)
  | (exfalso; simp_all; done)
  | (simp only [decide_eq_true_eq, decide_eq_false_iff_not, Bool.not_eq_true', Bool.not_eq_false', Bool.not_true, Bool.not_false] at *; exfalso; omega))
-- all is kept, over several steps; an address that was free
local macro_rules | `(tactic| walk_at "kp") => `(tactic| (intro _ _ _; walk_at "hp"))
local macro_rules | `(tactic| walk_at "fr") => `(tactic| first | assumption | (refine G.Kp.back (by assumption) ?_; walk_at "fr") | (refine G.Md.back (by assumption) ?_; walk_at "fr"))
namespace Lw
open PySem PySem.Spec PyProof.Rows L2
def top (i : Nat) : Stmt := PySem.Challenge.pw_anyfifth_k08_whole_kinds_of_fifths.main.body.getD i (.Pass ⟨0, 0, 0, 0⟩)
abbrev s_is_integer : Stmt := top 2
abbrev a_is_integer (K : PySem.W.Frag) : Addr := He.ga K "is_integer"
def d_is_integer : He5.DefA := ⟨a_is_integer, "is_integer", "is_integer", defArgs s_is_integer, defBody s_is_integer, defScope s_is_integer, [], []⟩
abbrev s_common_divisor : Stmt := top 14
abbrev a_common_divisor (K : PySem.W.Frag) : Addr := He.ga K "common_divisor"
def d_common_divisor : He5.DefA := ⟨a_common_divisor, "common_divisor", "common_divisor", defArgs s_common_divisor, defBody s_common_divisor, defScope s_common_divisor, [], []⟩
abbrev s_parts_of : Stmt := top 19
abbrev a_parts_of (K : PySem.W.Frag) : Addr := He.ga K "parts_of"
def d_parts_of : He5.DefA := ⟨a_parts_of, "parts_of", "parts_of", defArgs s_parts_of, defBody s_parts_of, defScope s_parts_of, [], []⟩
abbrev s_need_divisor : Stmt := top 20
abbrev a_need_divisor (K : PySem.W.Frag) : Addr := He.ga K "need_divisor"
def d_need_divisor : He5.DefA := ⟨a_need_divisor, "need_divisor", "need_divisor", defArgs s_need_divisor, defBody s_need_divisor, defScope s_need_divisor, [], []⟩
abbrev s_Ratio_init : Stmt := inClass (top 21) 0
abbrev a_Ratio_init (K : PySem.W.Frag) : Addr := He.ma K (He.ga K "Ratio") "__init__"
def d_Ratio_init : He5.DefA := ⟨a_Ratio_init, "__init__", "Ratio.__init__", defArgs s_Ratio_init, defBody s_Ratio_init, defScope s_Ratio_init, [.int 1], []⟩
abbrev s_Ratio_is_number : Stmt := inClass (top 21) 1
abbrev a_Ratio_is_number (K : PySem.W.Frag) : Addr := G.smA "Ratio" "is_number" K
def d_Ratio_is_number : He5.DefA := ⟨a_Ratio_is_number, "is_number", "Ratio.is_number", defArgs s_Ratio_is_number, defBody s_Ratio_is_number, defScope s_Ratio_is_number, [], []⟩
abbrev s_Ratio_of : Stmt := inClass (top 21) 3
abbrev a_Ratio_of (K : PySem.W.Frag) : Addr := G.smA "Ratio" "of" K
def d_Ratio_of : He5.DefA := ⟨a_Ratio_of, "of", "Ratio.of", defArgs s_Ratio_of, defBody s_Ratio_of, defScope s_Ratio_of, [], []⟩
abbrev s_Ratio_lt : Stmt := inClass (top 21) 20
abbrev a_Ratio_lt (K : PySem.W.Frag) : Addr := He.ma K (He.ga K "Ratio") "__lt__"
def d_Ratio_lt : He5.DefA := ⟨a_Ratio_lt, "__lt__", "Ratio.__lt__", defArgs s_Ratio_lt, defBody s_Ratio_lt, defScope s_Ratio_lt, [], []⟩
abbrev s_Ratio_le : Stmt := inClass (top 21) 21
abbrev a_Ratio_le (K : PySem.W.Frag) : Addr := He.ma K (He.ga K "Ratio") "__le__"
def d_Ratio_le : He5.DefA := ⟨a_Ratio_le, "__le__", "Ratio.__le__", defArgs s_Ratio_le, defBody s_Ratio_le, defScope s_Ratio_le, [], []⟩
abbrev s_Ratio_gt : Stmt := inClass (top 21) 22
abbrev a_Ratio_gt (K : PySem.W.Frag) : Addr := He.ma K (He.ga K "Ratio") "__gt__"
def d_Ratio_gt : He5.DefA := ⟨a_Ratio_gt, "__gt__", "Ratio.__gt__", defArgs s_Ratio_gt, defBody s_Ratio_gt, defScope s_Ratio_gt, [], []⟩
abbrev s_Ratio_ge : Stmt := inClass (top 21) 23
abbrev a_Ratio_ge (K : PySem.W.Frag) : Addr := He.ma K (He.ga K "Ratio") "__ge__"
def d_Ratio_ge : He5.DefA := ⟨a_Ratio_ge, "__ge__", "Ratio.__ge__", defArgs s_Ratio_ge, defBody s_Ratio_ge, defScope s_Ratio_ge, [], []⟩
abbrev s_Piece_init : Stmt := inClass (top 24) 0
abbrev a_Piece_init (K : PySem.W.Frag) : Addr := He.ma K (He.ga K "Piece") "__init__"
def d_Piece_init : He5.DefA := ⟨a_Piece_init, "__init__", "Piece.__init__", defArgs s_Piece_init, defBody s_Piece_init, defScope s_Piece_init, [], []⟩
abbrev s_Piece_spot : Stmt := inClass (top 24) 7
abbrev a_Piece_spot (K : PySem.W.Frag) : Addr := He.ma K (He.ga K "Piece") "spot"
def d_Piece_spot : He5.DefA := ⟨a_Piece_spot, "spot", "Piece.spot", defArgs s_Piece_spot, defBody s_Piece_spot, defScope s_Piece_spot, [], []⟩
abbrev s_Piece_kind : Stmt := inClass (top 24) 8
abbrev a_Piece_kind (K : PySem.W.Frag) : Addr := He.ma K (He.ga K "Piece") "kind"
def d_Piece_kind : He5.DefA := ⟨a_Piece_kind, "kind", "Piece.kind", defArgs s_Piece_kind, defBody s_Piece_kind, defScope s_Piece_kind, [], []⟩
abbrev s_Piece_contains : Stmt := inClass (top 24) 9
abbrev a_Piece_contains (K : PySem.W.Frag) : Addr := He.ma K (He.ga K "Piece") "__contains__"
def d_Piece_contains : He5.DefA := ⟨a_Piece_contains, "__contains__", "Piece.__contains__", defArgs s_Piece_contains, defBody s_Piece_contains, defScope s_Piece_contains, [], []⟩
abbrev s_law_pen : Stmt := top 26
abbrev a_law_pen (K : PySem.W.Frag) : Addr := He.ga K "_law_pen"
def d_law_pen : He5.DefA := ⟨a_law_pen, "_law_pen", "_law_pen", defArgs s_law_pen, defBody s_law_pen, defScope s_law_pen, [], []⟩
abbrev s_law_draw : Stmt := top 27
abbrev a_law_draw (K : PySem.W.Frag) : Addr := He.ga K "_law_draw"
def d_law_draw : He5.DefA := ⟨a_law_draw, "_law_draw", "_law_draw", defArgs s_law_draw, defBody s_law_draw, defScope s_law_draw, [], []⟩
abbrev s_law_pick : Stmt := top 28
abbrev a_law_pick (K : PySem.W.Frag) : Addr := He.ga K "_law_pick"
def d_law_pick : He5.DefA := ⟨a_law_pick, "_law_pick", "_law_pick", defArgs s_law_pick, defBody s_law_pick, defScope s_law_pick, [], []⟩
abbrev s_law_walk : Stmt := top 29
abbrev a_law_walk (K : PySem.W.Frag) : Addr := He.ga K "_law_walk"
def d_law_walk : He5.DefA := ⟨a_law_walk, "_law_walk", "_law_walk", defArgs s_law_walk, defBody s_law_walk, defScope s_law_walk, [], []⟩
abbrev s_law_piece : Stmt := top 30
abbrev a_law_piece (K : PySem.W.Frag) : Addr := He.ga K "_law_piece"
def d_law_piece : He5.DefA := ⟨a_law_piece, "_law_piece", "_law_piece", defArgs s_law_piece, defBody s_law_piece, defScope s_law_piece, [], []⟩
abbrev s_law_common : Stmt := top 31
abbrev a_law_common (K : PySem.W.Frag) : Addr := He.ga K "_law_common"
def d_law_common : He5.DefA := ⟨a_law_common, "_law_common", "_law_common", defArgs s_law_common, defBody s_law_common, defScope s_law_common, [], []⟩
abbrev s_law_is_beside : Stmt := top 32
abbrev a_law_is_beside (K : PySem.W.Frag) : Addr := He.ga K "_law_is_beside"
def d_law_is_beside : He5.DefA := ⟨a_law_is_beside, "_law_is_beside", "_law_is_beside", defArgs s_law_is_beside, defBody s_law_is_beside, defScope s_law_is_beside, [], []⟩
abbrev s_law_kind : Stmt := top 33
abbrev a_law_kind (K : PySem.W.Frag) : Addr := He.ga K "_law_kind"
def d_law_kind : He5.DefA := ⟨a_law_kind, "_law_kind", "_law_kind", defArgs s_law_kind, defBody s_law_kind, defScope s_law_kind, [], []⟩
abbrev s_law_near_kind : Stmt := top 34
abbrev a_law_near_kind (K : PySem.W.Frag) : Addr := He.ga K "_law_near_kind"
def d_law_near_kind : He5.DefA := ⟨a_law_near_kind, "_law_near_kind", "_law_near_kind", defArgs s_law_near_kind, defBody s_law_near_kind, defScope s_law_near_kind, [], []⟩
abbrev s_law_right : Stmt := top 35
abbrev a_law_right (K : PySem.W.Frag) : Addr := He.ga K "_law_right"
def d_law_right : He5.DefA := ⟨a_law_right, "_law_right", "_law_right", defArgs s_law_right, defBody s_law_right, defScope s_law_right, [], []⟩
abbrev s_law_small : Stmt := top 36
abbrev a_law_small (K : PySem.W.Frag) : Addr := He.ga K "_law_small"
def d_law_small : He5.DefA := ⟨a_law_small, "_law_small", "_law_small", defArgs s_law_small, defBody s_law_small, defScope s_law_small, [], []⟩
abbrev s_law : Stmt := top 37
abbrev a_law (K : PySem.W.Frag) : Addr := He.ga K "law"
def d_law : He5.DefA := ⟨a_law, "law", "law", defArgs s_law, defBody s_law, defScope s_law, [], []⟩
def fns : List He5.DefA := [d_is_integer, d_common_divisor, d_parts_of, d_need_divisor, d_Ratio_init, d_Ratio_is_number, d_Ratio_of, d_Ratio_lt, d_Ratio_le, d_Ratio_gt, d_Ratio_ge, d_Piece_init, d_Piece_spot, d_Piece_kind, d_Piece_contains, d_law_pen, d_law_draw, d_law_pick, d_law_walk, d_law_piece, d_law_common, d_law_is_beside, d_law_kind, d_law_near_kind, d_law_right, d_law_small, d_law]
def exs : List G.ExB := [G.gloB "is_integer", G.gloB "common_divisor", G.gloB "parts_of", G.gloB "need_divisor", G.gloB "_law_pen", G.gloB "_law_draw", G.gloB "_law_pick", G.gloB "_law_walk", G.gloB "_law_piece", G.gloB "_law_common", G.gloB "_law_is_beside", G.gloB "_law_kind", G.gloB "_law_near_kind", G.gloB "_law_right", G.gloB "_law_small", G.gloB "law", G.gloB "Ratio", G.clsB "Ratio", G.isiB "Ratio", G.rdB "Ratio", G.mkrB "Ratio", G.gloB "Piece", G.clsB "Piece", G.isiB "Piece", G.rdB "Piece", G.mkrB "Piece", G.smB "Ratio" "is_number", G.smB "Ratio" "of", G.ownB "Ratio" "__lt__", G.ownB "Ratio" "__le__", G.ownB "Ratio" "__gt__", G.ownB "Ratio" "__ge__", G.methB "Piece" "spot", G.methB "Piece" "kind", G.ownB "Piece" "__contains__", G.noatB "Ratio" "top", G.noatB "Ratio" "bottom", G.noatB "Piece" "left", G.noatB "Piece" "right", G.freB "isinstance", G.freB "int", G.freB "bool", G.freB "abs", G.freB "len", G.freB "range", G.freB "list", G.kitB (fun _ => .type "int") "Ratio" false, G.kitB (fun K => .ref (He.ga K "Ratio")) "Ratio" true, G.nfB "Ratio" (fun _ => .type "int"), G.nfB "Ratio" (fun K => .ref (He.ga K "Ratio"))]
abbrev Tx (K : PySem.W.Frag) (mg : Str → Option Value) : Prop := G.Txt exs fns K mg
section
variable {K : PySem.W.Frag} {mg : Str → Option Value} (T : Tx K mg)
include T
theorem gl_is_integer : mg "is_integer" = some (.ref (He.ga K "is_integer")) := T.gl 0 "is_integer"
theorem gl_common_divisor : mg "common_divisor" = some (.ref (He.ga K "common_divisor")) := T.gl 1 "common_divisor"
theorem gl_parts_of : mg "parts_of" = some (.ref (He.ga K "parts_of")) := T.gl 2 "parts_of"
theorem gl_need_divisor : mg "need_divisor" = some (.ref (He.ga K "need_divisor")) := T.gl 3 "need_divisor"
theorem gl_law_pen : mg "_law_pen" = some (.ref (He.ga K "_law_pen")) := T.gl 4 "_law_pen"
theorem gl_law_draw : mg "_law_draw" = some (.ref (He.ga K "_law_draw")) := T.gl 5 "_law_draw"
theorem gl_law_pick : mg "_law_pick" = some (.ref (He.ga K "_law_pick")) := T.gl 6 "_law_pick"
theorem gl_law_walk : mg "_law_walk" = some (.ref (He.ga K "_law_walk")) := T.gl 7 "_law_walk"
theorem gl_law_piece : mg "_law_piece" = some (.ref (He.ga K "_law_piece")) := T.gl 8 "_law_piece"
theorem gl_law_common : mg "_law_common" = some (.ref (He.ga K "_law_common")) := T.gl 9 "_law_common"
theorem gl_law_is_beside : mg "_law_is_beside" = some (.ref (He.ga K "_law_is_beside")) := T.gl 10 "_law_is_beside"
theorem gl_law_kind : mg "_law_kind" = some (.ref (He.ga K "_law_kind")) := T.gl 11 "_law_kind"
theorem gl_law_near_kind : mg "_law_near_kind" = some (.ref (He.ga K "_law_near_kind")) := T.gl 12 "_law_near_kind"
theorem gl_law_right : mg "_law_right" = some (.ref (He.ga K "_law_right")) := T.gl 13 "_law_right"
theorem gl_law_small : mg "_law_small" = some (.ref (He.ga K "_law_small")) := T.gl 14 "_law_small"
theorem gl_law : mg "law" = some (.ref (He.ga K "law")) := T.gl 15 "law"
theorem gl_Ratio : mg "Ratio" = some (.ref (He.ga K "Ratio")) := T.gl 16 "Ratio"
theorem cl_Ratio : Cls K (He.ga K "Ratio") := He.cls_ok (T.fact 17)
theorem is_Ratio : G.IsiC K (He.ga K "Ratio") := G.isiB_ok (T.fact 18)
theorem rd_Ratio : ClX.CRead K (He.ga K "Ratio") (.type "type") := G.rdB_ok (T.fact 19)
theorem mk_Ratio : Mk K (He.ga K "Ratio") (a_Ratio_init K) := He.mkr_ok (T.fact 20)
theorem gl_Piece : mg "Piece" = some (.ref (He.ga K "Piece")) := T.gl 21 "Piece"
theorem cl_Piece : Cls K (He.ga K "Piece") := He.cls_ok (T.fact 22)
theorem is_Piece : G.IsiC K (He.ga K "Piece") := G.isiB_ok (T.fact 23)
theorem rd_Piece : ClX.CRead K (He.ga K "Piece") (.type "type") := G.rdB_ok (T.fact 24)
theorem mk_Piece : Mk K (He.ga K "Piece") (a_Piece_init K) := He.mkr_ok (T.fact 25)
theorem sm_Ratio_is_number : G.SMet K (He.ga K "Ratio") (.type "type") "is_number" (a_Ratio_is_number K) := G.smB_ok (T.fact 26)
theorem sm_Ratio_of : G.SMet K (He.ga K "Ratio") (.type "type") "of" (a_Ratio_of K) := G.smB_ok (T.fact 27)
theorem ow_Ratio_lt : G.OwnM K (He.ga K "Ratio") "__lt__" (a_Ratio_lt K) := G.ownB_ok (T.fact 28)
theorem ow_Ratio_le : G.OwnM K (He.ga K "Ratio") "__le__" (a_Ratio_le K) := G.ownB_ok (T.fact 29)
theorem ow_Ratio_gt : G.OwnM K (He.ga K "Ratio") "__gt__" (a_Ratio_gt K) := G.ownB_ok (T.fact 30)
theorem ow_Ratio_ge : G.OwnM K (He.ga K "Ratio") "__ge__" (a_Ratio_ge K) := G.ownB_ok (T.fact 31)
theorem me_Piece_spot : Meth K (He.ga K "Piece") "spot" (a_Piece_spot K) := He.meth_ok (T.fact 32)
theorem me_Piece_kind : Meth K (He.ga K "Piece") "kind" (a_Piece_kind K) := He.meth_ok (T.fact 33)
theorem ow_Piece_contains : G.OwnM K (He.ga K "Piece") "__contains__" (a_Piece_contains K) := G.ownB_ok (T.fact 34)
theorem na_Ratio_top : NoAttr K (He.ga K "Ratio") "top" := He.noat_ok (T.fact 35)
theorem na_Ratio_bottom : NoAttr K (He.ga K "Ratio") "bottom" := He.noat_ok (T.fact 36)
theorem na_Piece_left : NoAttr K (He.ga K "Piece") "left" := He.noat_ok (T.fact 37)
theorem na_Piece_right : NoAttr K (He.ga K "Piece") "right" := He.noat_ok (T.fact 38)
theorem fr_isinstance : mg "isinstance" = none := T.fr 39 "isinstance"
theorem fr_int : mg "int" = none := T.fr 40 "int"
theorem fr_bool : mg "bool" = none := T.fr 41 "bool"
theorem fr_abs : mg "abs" = none := T.fr 42 "abs"
theorem fr_len : mg "len" = none := T.fr 43 "len"
theorem fr_range : mg "range" = none := T.fr 44 "range"
theorem fr_list : mg "list" = none := T.fr 45 "list"
theorem ki_int_Ratio : PySem.W.kitOne K (.type "int") (.ref (He.ga K "Ratio")) = some false := G.kitB_ok (T.fact 46)
theorem ki_Ratio_Ratio : PySem.W.kitOne K (.ref (He.ga K "Ratio")) (.ref (He.ga K "Ratio")) = some true := G.kitB_ok (T.fact 47)
theorem nf_Ratio_int : PySem.W.notFirst K (He.ga K "Ratio") (.type "int") = true := id (T.fact 48)
theorem nf_Ratio_Ratio : PySem.W.notFirst K (He.ga K "Ratio") (.ref (He.ga K "Ratio")) = true := id (T.fact 49)
theorem F_is_integer : FunD K "is_integer" "is_integer" (defArgs s_is_integer) (defBody s_is_integer) (defScope s_is_integer) [] [] (a_is_integer K) (G.fdOf K (a_is_integer K)) := T.def_ 0
theorem bi_is_integer : Binds K (G.fdOf K (a_is_integer K)) ["value"] [] := (F_is_integer T).bindsN fun _ _ _ _ _ _ us hl => match us, hl with | [_], _ => rfl
theorem F_common_divisor : FunD K "common_divisor" "common_divisor" (defArgs s_common_divisor) (defBody s_common_divisor) (defScope s_common_divisor) [] [] (a_common_divisor K) (G.fdOf K (a_common_divisor K)) := T.def_ 1
theorem bi_common_divisor : Binds K (G.fdOf K (a_common_divisor K)) ["one", "other"] [] := (F_common_divisor T).bindsN fun _ _ _ _ _ _ us hl => match us, hl with | [_, _], _ => rfl
theorem F_parts_of : FunD K "parts_of" "parts_of" (defArgs s_parts_of) (defBody s_parts_of) (defScope s_parts_of) [] [] (a_parts_of K) (G.fdOf K (a_parts_of K)) := T.def_ 2
theorem bi_parts_of : Binds K (G.fdOf K (a_parts_of K)) ["number"] [] := (F_parts_of T).bindsN fun _ _ _ _ _ _ us hl => match us, hl with | [_], _ => rfl
theorem F_need_divisor : FunD K "need_divisor" "need_divisor" (defArgs s_need_divisor) (defBody s_need_divisor) (defScope s_need_divisor) [] [] (a_need_divisor K) (G.fdOf K (a_need_divisor K)) := T.def_ 3
theorem bi_need_divisor : Binds K (G.fdOf K (a_need_divisor K)) ["number"] [] := (F_need_divisor T).bindsN fun _ _ _ _ _ _ us hl => match us, hl with | [_], _ => rfl
theorem F_Ratio_init : FunD K "__init__" "Ratio.__init__" (defArgs s_Ratio_init) (defBody s_Ratio_init) (defScope s_Ratio_init) [.int 1] [] (a_Ratio_init K) (G.fdOf K (a_Ratio_init K)) := T.def_ 4
theorem bi_Ratio_init : Binds K (G.fdOf K (a_Ratio_init K)) ["self", "top", "bottom"] [] := by
  obtain ⟨ds, hd, hb⟩ := (F_Ratio_init T).binds1 (ps := ["self", "top", "bottom"]) 3 1 (by simp) rfl fun T kV doc pm an cdv ct us its h1 h2 => match us, its, h1, h2 with | [_, _, _], [_], _, _ => ⟨_, rfl, rfl⟩
  cases hd
  exact hb
theorem F_Ratio_is_number : FunD K "is_number" "Ratio.is_number" (defArgs s_Ratio_is_number) (defBody s_Ratio_is_number) (defScope s_Ratio_is_number) [] [] (a_Ratio_is_number K) (G.fdOf K (a_Ratio_is_number K)) := T.def_ 5
theorem bi_Ratio_is_number : Binds K (G.fdOf K (a_Ratio_is_number K)) ["value"] [] := (F_Ratio_is_number T).bindsN fun _ _ _ _ _ _ us hl => match us, hl with | [_], _ => rfl
theorem F_Ratio_of : FunD K "of" "Ratio.of" (defArgs s_Ratio_of) (defBody s_Ratio_of) (defScope s_Ratio_of) [] [] (a_Ratio_of K) (G.fdOf K (a_Ratio_of K)) := T.def_ 6
theorem bi_Ratio_of : Binds K (G.fdOf K (a_Ratio_of K)) ["number"] [] := (F_Ratio_of T).bindsN fun _ _ _ _ _ _ us hl => match us, hl with | [_], _ => rfl
theorem F_Ratio_lt : FunD K "__lt__" "Ratio.__lt__" (defArgs s_Ratio_lt) (defBody s_Ratio_lt) (defScope s_Ratio_lt) [] [] (a_Ratio_lt K) (G.fdOf K (a_Ratio_lt K)) := T.def_ 7
theorem bi_Ratio_lt : Binds K (G.fdOf K (a_Ratio_lt K)) ["self", "other"] [] := (F_Ratio_lt T).bindsN fun _ _ _ _ _ _ us hl => match us, hl with | [_, _], _ => rfl
theorem F_Ratio_le : FunD K "__le__" "Ratio.__le__" (defArgs s_Ratio_le) (defBody s_Ratio_le) (defScope s_Ratio_le) [] [] (a_Ratio_le K) (G.fdOf K (a_Ratio_le K)) := T.def_ 8
theorem bi_Ratio_le : Binds K (G.fdOf K (a_Ratio_le K)) ["self", "other"] [] := (F_Ratio_le T).bindsN fun _ _ _ _ _ _ us hl => match us, hl with | [_, _], _ => rfl
theorem F_Ratio_gt : FunD K "__gt__" "Ratio.__gt__" (defArgs s_Ratio_gt) (defBody s_Ratio_gt) (defScope s_Ratio_gt) [] [] (a_Ratio_gt K) (G.fdOf K (a_Ratio_gt K)) := T.def_ 9
theorem bi_Ratio_gt : Binds K (G.fdOf K (a_Ratio_gt K)) ["self", "other"] [] := (F_Ratio_gt T).bindsN fun _ _ _ _ _ _ us hl => match us, hl with | [_, _], _ => rfl
theorem F_Ratio_ge : FunD K "__ge__" "Ratio.__ge__" (defArgs s_Ratio_ge) (defBody s_Ratio_ge) (defScope s_Ratio_ge) [] [] (a_Ratio_ge K) (G.fdOf K (a_Ratio_ge K)) := T.def_ 10
theorem bi_Ratio_ge : Binds K (G.fdOf K (a_Ratio_ge K)) ["self", "other"] [] := (F_Ratio_ge T).bindsN fun _ _ _ _ _ _ us hl => match us, hl with | [_, _], _ => rfl
theorem F_Piece_init : FunD K "__init__" "Piece.__init__" (defArgs s_Piece_init) (defBody s_Piece_init) (defScope s_Piece_init) [] [] (a_Piece_init K) (G.fdOf K (a_Piece_init K)) := T.def_ 11
theorem bi_Piece_init : Binds K (G.fdOf K (a_Piece_init K)) ["self", "left", "right"] [] := (F_Piece_init T).bindsN fun _ _ _ _ _ _ us hl => match us, hl with | [_, _, _], _ => rfl
theorem F_Piece_spot : FunD K "spot" "Piece.spot" (defArgs s_Piece_spot) (defBody s_Piece_spot) (defScope s_Piece_spot) [] [] (a_Piece_spot K) (G.fdOf K (a_Piece_spot K)) := T.def_ 12
theorem bi_Piece_spot : Binds K (G.fdOf K (a_Piece_spot K)) ["self", "fifth"] [] := (F_Piece_spot T).bindsN fun _ _ _ _ _ _ us hl => match us, hl with | [_, _], _ => rfl
theorem F_Piece_kind : FunD K "kind" "Piece.kind" (defArgs s_Piece_kind) (defBody s_Piece_kind) (defScope s_Piece_kind) [] [] (a_Piece_kind K) (G.fdOf K (a_Piece_kind K)) := T.def_ 13
theorem bi_Piece_kind : Binds K (G.fdOf K (a_Piece_kind K)) ["self", "fifth"] [] := (F_Piece_kind T).bindsN fun _ _ _ _ _ _ us hl => match us, hl with | [_, _], _ => rfl
theorem F_Piece_contains : FunD K "__contains__" "Piece.__contains__" (defArgs s_Piece_contains) (defBody s_Piece_contains) (defScope s_Piece_contains) [] [] (a_Piece_contains K) (G.fdOf K (a_Piece_contains K)) := T.def_ 14
theorem bi_Piece_contains : Binds K (G.fdOf K (a_Piece_contains K)) ["self", "value"] [] := (F_Piece_contains T).bindsN fun _ _ _ _ _ _ us hl => match us, hl with | [_, _], _ => rfl
theorem F_law_pen : FunD K "_law_pen" "_law_pen" (defArgs s_law_pen) (defBody s_law_pen) (defScope s_law_pen) [] [] (a_law_pen K) (G.fdOf K (a_law_pen K)) := T.def_ 15
theorem bi_law_pen : Binds K (G.fdOf K (a_law_pen K)) ["_law_script"] [] := (F_law_pen T).bindsN fun _ _ _ _ _ _ us hl => match us, hl with | [_], _ => rfl
theorem F_law_draw : FunD K "_law_draw" "_law_draw" (defArgs s_law_draw) (defBody s_law_draw) (defScope s_law_draw) [] [] (a_law_draw K) (G.fdOf K (a_law_draw K)) := T.def_ 16
theorem bi_law_draw : Binds K (G.fdOf K (a_law_draw K)) ["_law_pen_here", "_law_many"] [] := (F_law_draw T).bindsN fun _ _ _ _ _ _ us hl => match us, hl with | [_, _], _ => rfl
theorem F_law_pick : FunD K "_law_pick" "_law_pick" (defArgs s_law_pick) (defBody s_law_pick) (defScope s_law_pick) [] [] (a_law_pick K) (G.fdOf K (a_law_pick K)) := T.def_ 17
theorem bi_law_pick : Binds K (G.fdOf K (a_law_pick K)) ["_law_pen_here", "_law_some"] [] := (F_law_pick T).bindsN fun _ _ _ _ _ _ us hl => match us, hl with | [_, _], _ => rfl
theorem F_law_walk : FunD K "_law_walk" "_law_walk" (defArgs s_law_walk) (defBody s_law_walk) (defScope s_law_walk) [] [] (a_law_walk K) (G.fdOf K (a_law_walk K)) := T.def_ 18
theorem bi_law_walk : Binds K (G.fdOf K (a_law_walk K)) ["_law_pen_here", "_law_most"] [] := (F_law_walk T).bindsN fun _ _ _ _ _ _ us hl => match us, hl with | [_, _], _ => rfl
theorem F_law_piece : FunD K "_law_piece" "_law_piece" (defArgs s_law_piece) (defBody s_law_piece) (defScope s_law_piece) [] [] (a_law_piece K) (G.fdOf K (a_law_piece K)) := T.def_ 19
theorem bi_law_piece : Binds K (G.fdOf K (a_law_piece K)) ["_law_ends"] [] := (F_law_piece T).bindsN fun _ _ _ _ _ _ us hl => match us, hl with | [_], _ => rfl
theorem F_law_common : FunD K "_law_common" "_law_common" (defArgs s_law_common) (defBody s_law_common) (defScope s_law_common) [] [] (a_law_common K) (G.fdOf K (a_law_common K)) := T.def_ 20
theorem bi_law_common : Binds K (G.fdOf K (a_law_common K)) ["_law_one", "_law_other"] [] := (F_law_common T).bindsN fun _ _ _ _ _ _ us hl => match us, hl with | [_, _], _ => rfl
theorem F_law_is_beside : FunD K "_law_is_beside" "_law_is_beside" (defArgs s_law_is_beside) (defBody s_law_is_beside) (defScope s_law_is_beside) [] [] (a_law_is_beside K) (G.fdOf K (a_law_is_beside K)) := T.def_ 21
theorem bi_law_is_beside : Binds K (G.fdOf K (a_law_is_beside K)) ["_law_one", "_law_other"] [] := (F_law_is_beside T).bindsN fun _ _ _ _ _ _ us hl => match us, hl with | [_, _], _ => rfl
theorem F_law_kind : FunD K "_law_kind" "_law_kind" (defArgs s_law_kind) (defBody s_law_kind) (defScope s_law_kind) [] [] (a_law_kind K) (G.fdOf K (a_law_kind K)) := T.def_ 22
theorem bi_law_kind : Binds K (G.fdOf K (a_law_kind K)) ["_law_ends", "_law_top", "_law_bottom", "_law_deep"] [] := (F_law_kind T).bindsN fun _ _ _ _ _ _ us hl => match us, hl with | [_, _, _, _], _ => rfl
theorem F_law_near_kind : FunD K "_law_near_kind" "_law_near_kind" (defArgs s_law_near_kind) (defBody s_law_near_kind) (defScope s_law_near_kind) [] [] (a_law_near_kind K) (G.fdOf K (a_law_near_kind K)) := T.def_ 23
theorem bi_law_near_kind : Binds K (G.fdOf K (a_law_near_kind K)) ["_law_ends", "_law_top", "_law_bottom"] [] := (F_law_near_kind T).bindsN fun _ _ _ _ _ _ us hl => match us, hl with | [_, _, _], _ => rfl
theorem F_law_right : FunD K "_law_right" "_law_right" (defArgs s_law_right) (defBody s_law_right) (defScope s_law_right) [] [] (a_law_right K) (G.fdOf K (a_law_right K)) := T.def_ 24
theorem bi_law_right : Binds K (G.fdOf K (a_law_right K)) ["_law_pen_here", "_law_ends", "_law_top", "_law_bottom"] [] := (F_law_right T).bindsN fun _ _ _ _ _ _ us hl => match us, hl with | [_, _, _, _], _ => rfl
theorem F_law_small : FunD K "_law_small" "_law_small" (defArgs s_law_small) (defBody s_law_small) (defScope s_law_small) [] [] (a_law_small K) (G.fdOf K (a_law_small K)) := T.def_ 25
theorem bi_law_small : Binds K (G.fdOf K (a_law_small K)) ["_law_ends", "_law_most"] [] := (F_law_small T).bindsN fun _ _ _ _ _ _ us hl => match us, hl with | [_, _], _ => rfl
theorem F_law : FunD K "law" "law" (defArgs s_law) (defBody s_law) (defScope s_law) [] [] (a_law K) (G.fdOf K (a_law K)) := T.def_ 26
theorem bi_law : Binds K (G.fdOf K (a_law K)) ["_law_script"] [] := (F_law T).bindsN fun _ _ _ _ _ _ us hl => match us, hl with | [_], _ => rfl
end
theorem sc_is_integer : FnScope ["value"] ["value"] (defScope s_is_integer) := ⟨rfl, rfl, rfl, by decide +kernel, rfl, by decide +kernel, by decide +kernel⟩
theorem sc_common_divisor : FnScope ["one", "other"] ["one", "other"] (defScope s_common_divisor) := ⟨rfl, rfl, rfl, by decide +kernel, rfl, by decide +kernel, by decide +kernel⟩
theorem sc_parts_of : FnScope ["number"] ["number"] (defScope s_parts_of) := ⟨rfl, rfl, rfl, by decide +kernel, rfl, by decide +kernel, by decide +kernel⟩
theorem sc_need_divisor : FnScope ["number"] ["number"] (defScope s_need_divisor) := ⟨rfl, rfl, rfl, by decide +kernel, rfl, by decide +kernel, by decide +kernel⟩
theorem sc_Ratio_init : FnScope ["self", "top", "bottom", "shared"] ["self", "top", "bottom"] (defScope s_Ratio_init) := ⟨rfl, rfl, rfl, by decide +kernel, rfl, by decide +kernel, by decide +kernel⟩
theorem sc_Ratio_is_number : FnScope ["value"] ["value"] (defScope s_Ratio_is_number) := ⟨rfl, rfl, rfl, by decide +kernel, rfl, by decide +kernel, by decide +kernel⟩
theorem sc_Ratio_of : FnScope ["number", "top", "bottom"] ["number"] (defScope s_Ratio_of) := ⟨rfl, rfl, rfl, by decide +kernel, rfl, by decide +kernel, by decide +kernel⟩
theorem sc_Ratio_lt : FnScope ["self", "other", "top", "bottom"] ["self", "other"] (defScope s_Ratio_lt) := ⟨rfl, rfl, rfl, by decide +kernel, rfl, by decide +kernel, by decide +kernel⟩
theorem sc_Ratio_le : FnScope ["self", "other", "top", "bottom"] ["self", "other"] (defScope s_Ratio_le) := ⟨rfl, rfl, rfl, by decide +kernel, rfl, by decide +kernel, by decide +kernel⟩
theorem sc_Ratio_gt : FnScope ["self", "other", "top", "bottom"] ["self", "other"] (defScope s_Ratio_gt) := ⟨rfl, rfl, rfl, by decide +kernel, rfl, by decide +kernel, by decide +kernel⟩
theorem sc_Ratio_ge : FnScope ["self", "other", "top", "bottom"] ["self", "other"] (defScope s_Ratio_ge) := ⟨rfl, rfl, rfl, by decide +kernel, rfl, by decide +kernel, by decide +kernel⟩
theorem sc_Piece_init : FnScope ["self", "left", "right"] ["self", "left", "right"] (defScope s_Piece_init) := ⟨rfl, rfl, rfl, by decide +kernel, rfl, by decide +kernel, by decide +kernel⟩
theorem sc_Piece_spot : FnScope ["self", "fifth", "u"] ["self", "fifth"] (defScope s_Piece_spot) := ⟨rfl, rfl, rfl, by decide +kernel, rfl, by decide +kernel, by decide +kernel⟩
theorem sc_Piece_kind : FnScope ["self", "fifth", "u", "v"] ["self", "fifth"] (defScope s_Piece_kind) := ⟨rfl, rfl, rfl, by decide +kernel, rfl, by decide +kernel, by decide +kernel⟩
theorem sc_Piece_contains : FnScope ["self", "value"] ["self", "value"] (defScope s_Piece_contains) := ⟨rfl, rfl, rfl, by decide +kernel, rfl, by decide +kernel, by decide +kernel⟩
theorem sc_law_pen : FnScope ["_law_script"] ["_law_script"] (defScope s_law_pen) := ⟨rfl, rfl, rfl, by decide +kernel, rfl, by decide +kernel, by decide +kernel⟩
theorem sc_law_draw : FnScope ["_law_pen_here", "_law_many", "_law_digit", "_law_begun", "_law_cell", "_law_great", "_law_mixed"] ["_law_pen_here", "_law_many"] (defScope s_law_draw) := ⟨rfl, rfl, rfl, by decide +kernel, rfl, by decide +kernel, by decide +kernel⟩
theorem sc_law_pick : FnScope ["_law_pen_here", "_law_some"] ["_law_pen_here", "_law_some"] (defScope s_law_pick) := ⟨rfl, rfl, rfl, by decide +kernel, rfl, by decide +kernel, by decide +kernel⟩
theorem sc_law_walk : FnScope ["_law_pen_here", "_law_most", "_law_a", "_law_b", "_law_c", "_law_d", "_law_turn"] ["_law_pen_here", "_law_most"] (defScope s_law_walk) := ⟨rfl, rfl, rfl, by decide +kernel, rfl, by decide +kernel, by decide +kernel⟩
theorem sc_law_piece : FnScope ["_law_ends"] ["_law_ends"] (defScope s_law_piece) := ⟨rfl, rfl, rfl, by decide +kernel, rfl, by decide +kernel, by decide +kernel⟩
theorem sc_law_common : FnScope ["_law_one", "_law_other"] ["_law_one", "_law_other"] (defScope s_law_common) := ⟨rfl, rfl, rfl, by decide +kernel, rfl, by decide +kernel, by decide +kernel⟩
theorem sc_law_is_beside : FnScope ["_law_one", "_law_other"] ["_law_one", "_law_other"] (defScope s_law_is_beside) := ⟨rfl, rfl, rfl, by decide +kernel, rfl, by decide +kernel, by decide +kernel⟩
theorem sc_law_kind : FnScope ["_law_ends", "_law_top", "_law_bottom", "_law_deep", "_law_a", "_law_b", "_law_c", "_law_d", "_law_middle", "_law_is_left", "_law_half", "_law_inner"] ["_law_ends", "_law_top", "_law_bottom", "_law_deep"] (defScope s_law_kind) := ⟨rfl, rfl, rfl, by decide +kernel, rfl, by decide +kernel, by decide +kernel⟩
theorem sc_law_near_kind : FnScope ["_law_ends", "_law_top", "_law_bottom"] ["_law_ends", "_law_top", "_law_bottom"] (defScope s_law_near_kind) := ⟨rfl, rfl, rfl, by decide +kernel, rfl, by decide +kernel, by decide +kernel⟩
theorem sc_law_right : FnScope ["_law_pen_here", "_law_ends", "_law_top", "_law_bottom", "_law_made", "_law_deep", "_law_kind_here", "_law_near"] ["_law_pen_here", "_law_ends", "_law_top", "_law_bottom"] (defScope s_law_right) := ⟨rfl, rfl, rfl, by decide +kernel, rfl, by decide +kernel, by decide +kernel⟩
theorem sc_law_small : FnScope ["_law_ends", "_law_most", "_law_a", "_law_b", "_law_c", "_law_d", "_law_found", "_law_bottom", "_law_top"] ["_law_ends", "_law_most"] (defScope s_law_small) := ⟨rfl, rfl, rfl, by decide +kernel, rfl, by decide +kernel, by decide +kernel⟩
theorem sc_law : FnScope ["_law_script", "_law_pen_here", "_law_turn", "_law_ends", "_law_top", "_law_bottom", "_law_again", "_law_u", "_law_v", "_law_shared"] ["_law_script"] (defScope s_law) := ⟨rfl, rfl, rfl, by decide +kernel, rfl, by decide +kernel, by decide +kernel⟩
end Lw

namespace Lw
open PySem PySem.Spec PyProof.Rows L2
section
variable {P : Program} {w : World} {K : PySem.W.Frag} {mg : Str → Option Value} {base : Heap}
/-! ### what stands in the heap -/
/-- a Ratio in lowest terms -/
structure IsR (K : PySem.W.Frag) (H : Hp) (a : Addr) (t b : Int) : Prop where
  at_ : ∃ dx, H a = some (.ins (He.ga K "Ratio") dx [("top", .int t), ("bottom", .int b)])
  pos : 0 < b
  cop : Int.gcd t b = 1
  bt : G.Bd 4000 t
  bb : G.Bd 4000 b
def Num (K : PySem.W.Frag) (H : Hp) (v : V) (t b : Int) : Prop := (v = .int t ∧ b = 1 ∧ G.Bd 4000 t) ∨ ∃ a, v = .ref a ∧ IsR K H a t b
/-! ### checks, figures -/
def sp_is_integer : Sp := fun vs H Q _ => ∃ i, vs = [.int i] ∧ Q (.bl true) H
theorem ok_is_integer (T : Tx K mg) : FnOk P w K mg base CX0 1 (a_is_integer K) (G.fdOf K (a_is_integer K)) ["value"] sp_is_integer := by
  refine G.ok_of (F_is_integer T) sc_is_integer (fun vs H Q E h => ?_) (fun cdv A outer s H vs Q E hr h => ?_)
  · obtain ⟨i, rfl, _⟩ := h
    rfl
  · obtain ⟨i, rfl, q⟩ := h
    refine ⟨_, (pss_one (ps_ret (pe_and (pe_callB G.call_isiG (by rfl) (fr_isinstance T) boot_isinstance (pa_cons (pv 0) (pa_cons (G.pe_ty (by rfl) (fr_int T) boot_int) pa_nil))) (pe_one (pe_not (pe_callB G.call_isiG (by rfl) (fr_isinstance T) boot_isinstance (pa_cons (pv 0) (pa_cons (G.pe_ty (by rfl) (fr_bool T) boot_bool) pa_nil)))))))), ?_⟩
    walk_at "start"
    walk_at "go"
    exact q
def sp_common_divisor : Sp := fun vs H Q _ => ∃ i j, vs = [.int i, .int j] ∧ Q (.int ((Int.gcd i j : Nat) : Int)) H
theorem ok_common_divisor (T : Tx K mg) : FnOk P w K mg base CX0 1 (a_common_divisor K) (G.fdOf K (a_common_divisor K)) ["one", "other"] sp_common_divisor := by
  refine G.ok_of (F_common_divisor T) sc_common_divisor (fun vs H Q E h => ?_) (fun cdv A outer s H vs Q E hr h => ?_)
  · obtain ⟨i, j, rfl, _⟩ := h
    rfl
  · obtain ⟨i, j, rfl, q⟩ := h
    refine ⟨_, (pss_cons (ps_par (i := 0) (j := 1) (by rfl) sc_common_divisor.nd rfl rfl (by decide) rfl rfl (pa_cons (pe_callB G.call_absG (by rfl) (fr_abs T) boot_abs (pa_cons (pv 0) pa_nil)) (pa_cons (pe_callB G.call_absG (by rfl) (fr_abs T) boot_abs (pa_cons (pv 1) pa_nil)) pa_nil)) (by rfl))
    (pss_cons (ps_while PassesOwn.never (pt_cmpR (G.op_neG hr.units) (pv 1) pe_int (nomark _)) (pss_one (ps_par (i := 0) (j := 1) (by rfl) sc_common_divisor.nd rfl rfl (by decide) rfl rfl (pa_cons (pv 1) (pa_cons (pe_op G.op_modG (pv 0) (pv 1)) pa_nil)) (by rfl))))
    (pss_one (ps_ret (pv 0))))), ?_⟩
    walk_at "start"
    walk_at "go"
    refine G.st_while (fun m σ H' => H' = H ∧ ∃ a : Nat, σ = [some (.int (a : Int)), some (.int (m : Int))] ∧ Nat.gcd a m = Int.gcd i j) j.natAbs ⟨rfl, _, rfl, rfl⟩ ?_
    rintro m σ H' ⟨rfl, a, rfl, e⟩
    walk_at "gob"
    · refine ⟨a % m, Nat.mod_lt _ (by omega), rfl, m, by simp, ?_⟩
      rw [← e, Nat.gcd_comm a m, Nat.gcd_rec m a, Nat.gcd_comm]
    · rename_i hc
      have : m = 0 := by omega
      subst this
      rw [← e, Nat.gcd_zero_right] at q
      exact q
def sp_parts_of (K : PySem.W.Frag) : Sp := fun vs H Q _ => ∃ v t b, vs = [v] ∧ Num K H v t b ∧ ∀ p H', H p = none → G.Kp H H' → H' p = some (.tup [.int t, .int b]) → Q (.ref p) H'
end
end Lw

namespace Lw
open PySem PySem.Spec PyProof.Rows L2
section
variable {P : Program} {w : World} {K : PySem.W.Frag} {mg : Str → Option Value} {base : Heap} {H H' : Hp} {Q : VK} {E : XK} {a p : Addr} {t b n d i j : Int} {v : V}
theorem lk1 {x y : V} : List.lookup ("top" : Str) ([("top", x), ("bottom", y)] : List (Str × V)) = some x := by simp [List.lookup]
theorem lk2 {x y : V} : List.lookup ("bottom" : Str) ([("top", x), ("bottom", y)] : List (Str × V)) = some y := by
  have e : (("bottom" : Str) == "top") = false := by decide +kernel
  simp [List.lookup, e]
theorem IsR.kp (k : G.Kp H H') (h : IsR K H a t b) : IsR K H' a t b := ⟨let ⟨dx, e⟩ := h.at_; ⟨dx, k _ _ e⟩, h.pos, h.cop, h.bt, h.bb⟩
theorem IsR.md (k : G.Md p H H') (h : IsR K H a t b) : IsR K H' a t b := ⟨let ⟨dx, e⟩ := h.at_; ⟨dx, k.ins e⟩, h.pos, h.cop, h.bt, h.bb⟩
theorem Num.kp (k : G.Kp H H') (h : Num K H v t b) : Num K H' v t b := h.elim .inl fun ⟨a, e, r⟩ => .inr ⟨a, e, r.kp k⟩
theorem Num.md (k : G.Md p H H') (h : Num K H v t b) : Num K H' v t b := h.elim .inl fun ⟨a, e, r⟩ => .inr ⟨a, e, r.md k⟩
theorem Num.of_int (h : G.Bd 4000 t) : Num K H (.int t) t 1 := .inl ⟨rfl, rfl, h⟩
theorem Num.of_r (h : IsR K H a t b) : Num K H (.ref a) t b := .inr ⟨a, rfl, h⟩
theorem Num.pos (h : Num K H v t b) : 0 < b := h.elim (fun e => by rw [e.2.1]; decide) fun ⟨_, _, r⟩ => r.pos
theorem Num.cop (h : Num K H v t b) : Int.gcd t b = 1 := h.elim (fun e => by rw [e.2.1]; simp) fun ⟨_, _, r⟩ => r.cop
theorem Num.bt (h : Num K H v t b) : G.Bd 4000 t := h.elim (fun e => e.2.2) fun ⟨_, _, r⟩ => r.bt
theorem Num.bb (h : Num K H v t b) : G.Bd 4000 b := h.elim (fun e => by rw [e.2.1]; exact (G.Bd.lit 1).mono (by decide)) fun ⟨_, _, r⟩ => r.bb
theorem IsR.ty (T : Tx K mg) (h : IsR K H a t b) : TyX K H (.ref a) (.ref (He.ga K "Ratio")) := let ⟨_, e⟩ := h.at_; .base (.ins e (cl_Ratio T) (is_Ratio T).ha (is_Ratio T).hn (is_Ratio T).ht (is_Ratio T).hm)
theorem isi_iR (T : Tx K mg) (q : Q (.bl false) H) : G.rIsiG K [.int i, .ref (He.ga K "Ratio")] H Q := G.isi_cl (.base (.int _)) (ki_int_Ratio T) q
theorem isi_R (T : Tx K mg) (h : IsR K H a t b) (q : Q (.bl true) H) : G.rIsiG K [.ref a, .ref (He.ga K "Ratio")] H Q := G.isi_cl (h.ty T) (ki_Ratio_Ratio T) q
theorem fld_top (T : Tx K mg) (h : IsR K H a t b) (q : Q (.int t) H) : G.FldK K "top" (.ref a) H Q := let ⟨_, e⟩ := h.at_; G.st_fldK e (cl_Ratio T) (na_Ratio_top T) lk1 q
theorem fld_bottom (T : Tx K mg) (h : IsR K H a t b) (q : Q (.int b) H) : G.FldK K "bottom" (.ref a) H Q := let ⟨_, e⟩ := h.at_; G.st_fldK e (cl_Ratio T) (na_Ratio_bottom T) lk2 q
theorem is_integer_i (q : Q (.bl true) H) : sp_is_integer [.int i] H Q E := ⟨i, rfl, q⟩
theorem common_divisor_i (q : Q (.int ((Int.gcd i j : Nat) : Int)) H) : sp_common_divisor [.int i, .int j] H Q E := ⟨i, j, rfl, q⟩
theorem parts_of_n (h : Num K H v t b) (q : ∀ p H', H p = none → G.Kp H H' → H' p = some (.tup [.int t, .int b]) → Q (.ref p) H') : sp_parts_of K [v] H Q E := ⟨v, t, b, rfl, h, q⟩
theorem parts_of_i (h : G.Bd 4000 i) (q : ∀ p H', H p = none → G.Kp H H' → H' p = some (.tup [.int i, .int 1]) → Q (.ref p) H') : sp_parts_of K [.int i] H Q E := parts_of_n (.of_int h) q
theorem parts_of_R (h : IsR K H a t b) (q : ∀ p H', H p = none → G.Kp H H' → H' p = some (.tup [.int t, .int b]) → Q (.ref p) H') : sp_parts_of K [.ref a] H Q E := parts_of_n (.of_r h) q
end
end Lw

-- Ratio: facts, fields
local macro_rules | `(tactic| walk_at "hp") => `(tactic| first
  | (refine Lw.IsR.kp (by assumption) ?_; walk_at "hp")
  | (refine Lw.IsR.md (by assumption) ?_; walk_at "hp")
  | (refine Lw.Num.kp (by assumption) ?_; walk_at "hp")
  | (refine Lw.Num.md (by assumption) ?_; walk_at "hp")
  | (refine Lw.Num.of_r ?_; walk_at "hp"))
local macro_rules | `(tactic| walk_at "gx") => `(tactic| first
  | ((with_reducible refine Lw.isi_iR (by assumption) ?_))
  | ((with_reducible refine Lw.isi_R (t := ?z0) (b := ?z1) (by assumption) ?h ?_); (case h => walk_at "hp"))
  | ((with_reducible refine Lw.fld_top (t := ?z0) (b := ?z1) (by assumption) ?h ?_); (case h => walk_at "hp"))
  | ((with_reducible refine Lw.fld_bottom (t := ?z0) (b := ?z1) (by assumption) ?h ?_); (case h => walk_at "hp"))
  | with_reducible refine Lw.is_integer_i ?_
  | with_reducible refine Lw.common_divisor_i ?_
  | ((with_reducible refine Lw.parts_of_i ?h ?_); (case h => walk_at "bdw"); intro _ _ _ _ _)
  | ((with_reducible refine Lw.parts_of_R (t := ?z0) (b := ?z1) ?h ?_); (case h => walk_at "hp"); intro _ _ _ _ _)
  | ((with_reducible refine Lw.parts_of_n (t := ?z0) (b := ?z1) ?h ?_); (case h => walk_at "hp"); intro _ _ _ _ _))

namespace Lw
open PySem PySem.Spec PyProof.Rows L2
section
variable {P : Program} {w : World} {K : PySem.W.Frag} {mg : Str → Option Value} {base : Heap}
theorem ok_parts_of (T : Tx K mg) : FnOk P w K mg base CX0 1 (a_parts_of K) (G.fdOf K (a_parts_of K)) ["number"] (sp_parts_of K) := by
  refine G.ok_of (F_parts_of T) sc_parts_of (fun vs H Q E h => ?_) (fun cdv A outer s H vs Q E hr h => ?_)
  · obtain ⟨v, t, b, rfl, _⟩ := h
    rfl
  · obtain ⟨v, t, b, rfl, hv, q⟩ := h
    refine ⟨_, (pss_one (ps_ret (pe_ifExp (pt_val (pe_callB G.call_isiG (by rfl) (fr_isinstance T) boot_isinstance (pa_cons (pv 0) (pa_cons (G.pe_cl rfl (gl_Ratio T)) pa_nil)))) (pe_tup (pa_cons (pe_fld (pv 0) rfl) (pa_cons (pe_fld (pv 0) rfl) pa_nil))) (pe_tup (pa_cons (pv 0) (pa_cons pe_int pa_nil)))))), ?_⟩
    walk_at "start"
    rcases hv with ⟨rfl, rfl, _⟩ | ⟨a, rfl, ha⟩
    · walk_at "gob"
      exact q _ _ (by assumption) (by assumption) (by assumption)
    · walk_at "gob"
      exact q _ _ (by assumption) (by assumption) (by assumption)
def sp_need_divisor : Sp := fun vs H Q _ => ∃ i, vs = [.int i] ∧ i ≠ 0 ∧ Q .non H
theorem ok_need_divisor (T : Tx K mg) : FnOk P w K mg base CX0 1 (a_need_divisor K) (G.fdOf K (a_need_divisor K)) ["number"] sp_need_divisor := by
  refine G.ok_of (F_need_divisor T) sc_need_divisor (fun vs H Q E h => ?_) (fun cdv A outer s H vs Q E hr h => ?_)
  · obtain ⟨i, rfl, _⟩ := h
    rfl
  · obtain ⟨i, rfl, hi, q⟩ := h
    refine ⟨_, (pss_one (ps_if (pt_cmpR (G.op_eqG hr.units) (pv 0) pe_int (nomark _)) (pss_one ps_never) pss_nil)), ?_⟩
    walk_at "start"
    walk_at "gob"
    exact q
theorem need_divisor_i {H : Hp} {Q : VK} {E : XK} {i : Int} (h : i ≠ 0) (q : Q .non H) : sp_need_divisor [.int i] H Q E := ⟨i, rfl, h, q⟩
/-- t / b in lowest terms is n / d -/
def Low (t b n d : Int) : Prop := 0 < d ∧ Int.gcd n d = 1 ∧ ∃ k, t = n * k ∧ b = d * k
theorem low_g {t b g : Int} (hg : 0 < g) (e : g = ((Int.gcd t b : Nat) : Int)) (hb : b ≠ 0) : ∃ c d, t = g * c ∧ b = g * d ∧ t / g = c ∧ b / g = d ∧ Int.gcd c d = 1 := by
  obtain ⟨c, hc⟩ := Int.gcd_dvd_left t b
  obtain ⟨d, hd⟩ := Int.gcd_dvd_right t b
  rw [← e] at hc hd
  refine ⟨c, d, hc, hd, Int.ediv_eq_of_eq_mul_right (by omega) hc, Int.ediv_eq_of_eq_mul_right (by omega) hd, ?_⟩
  have z : Int.gcd t b = g.natAbs * Int.gcd c d := by
    conv => lhs; rw [hc, hd]
    rw [Int.gcd_mul_left]
  have g0 : 0 < g.natAbs := by omega
  have : g.natAbs * 1 = g.natAbs * Int.gcd c d := by omega
  exact (Nat.eq_of_mul_eq_mul_left g0 this).symm
theorem gcd_pos' {t b : Int} (h : b ≠ 0) : (0 : Int) < ((Int.gcd t b : Nat) : Int) := by
  have := Int.gcd_pos_of_ne_zero_right t h
  omega
theorem low_pos {t b : Int} (h : 0 < b) : Low t b (t.fdiv (Int.gcd t b)) (b.fdiv (Int.gcd t b)) := by
  have hg := gcd_pos' (t := t) (b := b) (by omega)
  obtain ⟨c, d, hc, hd, e1, e2, e3⟩ := low_g hg rfl (by omega)
  rw [Int.fdiv_eq_ediv_of_nonneg _ (by omega), Int.fdiv_eq_ediv_of_nonneg _ (by omega), e1, e2]
  refine ⟨?_, e3, _, by rw [Int.mul_comm]; exact hc, by rw [Int.mul_comm]; exact hd⟩
  rcases Int.lt_trichotomy d 0 with z | z | z
  · have := Int.mul_neg_of_pos_of_neg hg z
    omega
  · subst z; omega
  · exact z
theorem low_neg {t b : Int} (h : b < 0) : Low t b (t.fdiv (-(Int.gcd t b))) (b.fdiv (-(Int.gcd t b))) := by
  have hg := gcd_pos' (t := t) (b := b) (by omega)
  obtain ⟨c, d, hc, hd, e1, e2, e3⟩ := low_g hg rfl (by omega)
  have key : ∀ g x y : Int, 0 < g → x = g * y → x.fdiv (-g) = -y := fun g x y hg hx => by
    rw [hx, show g * y = (-g) * (-y) by rw [Int.neg_mul_neg]]
    exact Int.mul_fdiv_cancel_left _ (by omega)
  have f1 := key _ _ _ hg hc
  have f2 := key _ _ _ hg hd
  rw [f1, f2]
  refine ⟨?_, by rw [Int.gcd_neg, Int.neg_gcd]; exact e3, -((Int.gcd t b : Nat) : Int), by rw [Int.neg_mul_neg, Int.mul_comm]; exact hc, by rw [Int.neg_mul_neg, Int.mul_comm]; exact hd⟩
  rcases Int.lt_trichotomy d 0 with z | z | z
  · omega
  · subst z; omega
  · have := Int.mul_pos hg z
    omega
theorem Low.le {t b n d : Int} (h : Low t b n d) (hb : b ≠ 0) : n.natAbs ≤ t.natAbs ∧ d.natAbs ≤ b.natAbs := by
  obtain ⟨_, _, k, e1, e2⟩ := h
  have hk : 1 ≤ k.natAbs := by
    rcases Nat.eq_zero_or_pos k.natAbs with z | z
    · have : k = 0 := by omega
      subst this
      simp at e2
      exact absurd e2 hb
    · exact z
  rw [e1, e2, Int.natAbs_mul, Int.natAbs_mul]
  exact ⟨Nat.le_mul_of_pos_right _ hk, Nat.le_mul_of_pos_right _ hk⟩
/-- lowest terms are the only ones -/
theorem Low.self {t b n d : Int} (h : Low t b n d) (hb : 0 < b) (hc : Int.gcd t b = 1) : n = t ∧ d = b := by
  obtain ⟨h0, h1, k, e1, e2⟩ := h
  have hk : Int.gcd t b = Int.gcd n d * k.natAbs := by rw [e1, e2, Int.gcd_mul_right]
  rw [hc, h1] at hk
  have k1 : k.natAbs = 1 := by omega
  have k2 : 0 < k := by
    rcases Int.lt_trichotomy k 0 with z | z | z
    · have := Int.mul_neg_of_pos_of_neg h0 z
      omega
    · omega
    · exact z
  have : k = 1 := by omega
  subst this
  rw [Int.mul_one] at e1 e2
  exact ⟨e1.symm, e2.symm⟩
/-- Ratio(t, b): the new instance -/
def sp_Ratio_init (K : PySem.W.Frag) : Sp := fun vs H Q _ => ∃ x dx t b, vs = [.ref x, .int t, .int b] ∧ H x = some (.ins (He.ga K "Ratio") dx []) ∧ b ≠ 0 ∧ G.Bd 4000 t ∧ G.Bd 4000 b ∧
  ∀ n d H', Low t b n d → (∀ c o, c ≠ x → H c = some o → H' c = some o) → H' x = some (.ins (He.ga K "Ratio") dx [("top", .int n), ("bottom", .int d)]) → Q .non H'
end
end Lw

local macro_rules | `(tactic| walk_at "gx") => `(tactic| first
  | ((with_reducible refine Lw.need_divisor_i ?h ?_); (case h => first | assumption | omega)))

namespace Lw
open PySem PySem.Spec PyProof.Rows L2
section
variable {P : Program} {w : World} {K : PySem.W.Frag} {mg : Str → Option Value} {base : Heap}
theorem pf_R {x y : V} : putF ("bottom" : Str) y (putF ("top" : Str) x []) = ([("top", x), ("bottom", y)] : List (Str × V)) := by
  have e : ¬ (("top" : Str) = "bottom") := by decide +kernel
  show (if ("top" : Str) = "bottom" then [(("top" : Str), y)] else (("top" : Str), x) :: putF "bottom" y []) = ([("top", x), ("bottom", y)] : List (Str × V))
  rw [if_neg e]
  rfl
theorem bd_gcd {m : Nat} {t b : Int} (h : G.Bd m b) (hb : b ≠ 0) : G.Bd m ((Int.gcd t b : Nat) : Int) := G.Bd.of_le h (by
  have : Int.gcd t b ∣ b.natAbs := Nat.gcd_dvd_right _ _
  have := Nat.le_of_dvd (by omega) this
  omega)
theorem init_end {H : Hp} {x dx : Addr} {t b s : Int} {σ : L2.St} {te tx : TE} {n : L2.St → Hp → Prop} {r : VK} {bk ct : L2.St → Hp → Prop} (T : Tx K mg) (hx : H x = some (.ins (He.ga K "Ratio") dx [])) (hs : s ≠ 0) (bs : G.Bd 4000 s)
    (he : ∀ H' (Q : VK), G.rDivG (.int b) (.int s) H' Q → te σ H' Q) (hv : ∀ H' (Q : VK), Q (.ref x) H' → tx σ H' Q)
    (q : ∀ H', (∀ c o, c ≠ x → H c = some o → H' c = some o) → H' x = some (.ins (He.ga K "Ratio") dx [("top", .int (t.fdiv s)), ("bottom", .int (b.fdiv s))]) → n σ H') :
    G.rDivG (.int t) (.int s) H fun y H1 => tx σ H1 fun x1 H2 => G.SFldK K "top" x1 y H2 (sFld K tx te "bottom" ⟨n, r, bk, ct⟩ σ) := by
  refine G.fdiv_ii hs bs (by decide) (hv _ _ ?_)
  refine G.st_setfldK hx (cl_Ratio T) (na_Ratio_top T) (by decide) ?_
  refine G.st_setfld (he _ _ (G.fdiv_ii hs bs (by decide) (hv _ _ ?_)))
  refine G.st_setfldK upd_same (cl_Ratio T) (na_Ratio_bottom T) (by show 1 < 1000; decide) ?_
  refine q _ (fun c o nc e => by rw [upd_ne nc, upd_ne nc]; exact e) ?_
  rw [upd_same]
  exact congrArg (fun z => some (HO.ins (He.ga K "Ratio") dx z)) pf_R
theorem ok_Ratio_init (T : Tx K mg) : FnOk P w K mg base CX0 2 (a_Ratio_init K) (G.fdOf K (a_Ratio_init K)) ["self", "top", "bottom"] (sp_Ratio_init K) := by
  refine G.ok_of (F_Ratio_init T) sc_Ratio_init (fun vs H Q E h => ?_) (fun cdv A outer s H vs Q E hr h => ?_)
  · obtain ⟨x, dx, t, b, rfl, _⟩ := h
    rfl
  · obtain ⟨x, dx, t, b, rfl, hx, hb, bt, bb, q⟩ := h
    refine ⟨_, (pss_cons (ps_if (pt_not (pt_val (pe_call (ok_is_integer T) (hr.mono (by first | decide | omega)) rfl (gl_is_integer T) (F_is_integer T).kp (bi_is_integer T) .nil pass0 (pa_cons (pv 1) pa_nil)))) (pss_one ps_never) pss_nil)
    (pss_cons (ps_if (pt_not (pt_val (pe_call (ok_is_integer T) (hr.mono (by first | decide | omega)) rfl (gl_is_integer T) (F_is_integer T).kp (bi_is_integer T) .nil pass0 (pa_cons (pv 2) pa_nil)))) (pss_one ps_never) pss_nil)
    (pss_cons (ps_expr (pe_call (ok_need_divisor T) (hr.mono (by first | decide | omega)) rfl (gl_need_divisor T) (F_need_divisor T).kp (bi_need_divisor T) .nil pass0 (pa_cons (pv 2) pa_nil)))
    (pss_cons (ps_set (i := 3) sc_Ratio_init.nd rfl (Or.inl rfl) (pe_call (ok_common_divisor T) (hr.mono (by first | decide | omega)) rfl (gl_common_divisor T) (F_common_divisor T).kp (bi_common_divisor T) .nil pass0 (pa_cons (pv 1) (pa_cons (pv 2) pa_nil))))
    (pss_cons (ps_if (pt_cmpR G.op_ltG (pv 2) pe_int (nomark _)) (pss_one (ps_set (i := 3) sc_Ratio_init.nd rfl (Or.inl rfl) (pe_un G.un_negG (pv 3)))) pss_nil)
    (pss_cons (ps_fld (pv 0) (pe_op G.op_divG (pv 1) (pv 3)) rfl)
    (pss_one (ps_fld (pv 0) (pe_op G.op_divG (pv 2) (pv 3)) rfl)))))))), ?_⟩
    walk_at "start"
    walk_at "gob"
    · have h0 := gcd_pos' (t := t) hb
      refine init_end T hx (by omega) (bd_gcd bb hb).neg (fun H' Q h => ?_) (fun H' Q h => ?_) fun H' k e => q _ _ _ (low_neg (by omega)) k e
      · walk_at "go"; exact h
      · walk_at "go"; exact h
    · have h0 := gcd_pos' (t := t) hb
      refine init_end T hx (by omega) (bd_gcd bb hb) (fun H' Q h => ?_) (fun H' Q h => ?_) fun H' k e => q _ _ _ (low_pos (by omega)) k e
      · walk_at "go"; exact h
      · walk_at "go"; exact h
end
end Lw

namespace Lw
open PySem PySem.Spec PyProof.Rows L2
section
variable {P : Program} {w : World} {K : PySem.W.Frag} {mg : Str → Option Value} {base : Heap} {H H' : Hp} {Q : VK} {E : XK} {a p : Addr} {t b n d i j t' b' : Int} {v y : V}
theorem mk_R (hb : b ≠ 0) (bt : G.Bd 4000 t) (bb : G.Bd 4000 b) (q : ∀ x H' n d, H x = none → G.Kp H H' → IsR K H' x n d → Low t b n d → Q (.ref x) H') : G.MakeK (He.ga K "Ratio") (sp_Ratio_init K) [] E [.int t, .int b] H Q :=
  G.st_mkK fun x dx H1 hn k hx => ⟨x, dx, t, b, rfl, hx, hb, bt, bb, fun n d H' low j e => ⟨rfl, q x H' n d hn (G.Kp.init hn k j) ⟨⟨dx, e⟩, low.1, low.2.1, bt.of_le (low.le hb).1, bb.of_le (low.le hb).2⟩ low⟩⟩
/-- lowest terms given: the same -/
theorem mk_Rs (hb : 0 < b) (hc : Int.gcd t b = 1) (bt : G.Bd 4000 t) (bb : G.Bd 4000 b) (q : ∀ x H', H x = none → G.Kp H H' → IsR K H' x t b → Q (.ref x) H') : G.MakeK (He.ga K "Ratio") (sp_Ratio_init K) [] E [.int t, .int b] H Q :=
  mk_R (by omega) bt bb fun x H' n d hn k h l => by
    obtain ⟨rfl, rfl⟩ := l.self hb hc
    exact q x H' hn k h
def sp_is_number (K : PySem.W.Frag) : Sp := fun vs H Q _ => ∃ v t b, vs = [v] ∧ Num K H v t b ∧ Q (.bl true) H
theorem ok_Ratio_is_number (T : Tx K mg) : FnOk P w K mg base CX0 2 (a_Ratio_is_number K) (G.fdOf K (a_Ratio_is_number K)) ["value"] (sp_is_number K) := by
  refine G.ok_of (F_Ratio_is_number T) sc_Ratio_is_number (fun vs H Q E h => ?_) (fun cdv A outer s H vs Q E hr h => ?_)
  · obtain ⟨v, t, b, rfl, _⟩ := h
    rfl
  · obtain ⟨v, t, b, rfl, hv, q⟩ := h
    refine ⟨_, (pss_one (ps_ret (pe_or (pe_callB G.call_isiG (by rfl) (fr_isinstance T) boot_isinstance (pa_cons (pv 0) (pa_cons (G.pe_cl rfl (gl_Ratio T)) pa_nil))) (pe_one (pe_call (ok_is_integer T) (hr.mono (by first | decide | omega)) rfl (gl_is_integer T) (F_is_integer T).kp (bi_is_integer T) .nil pass0 (pa_cons (pv 0) pa_nil)))))), ?_⟩
    walk_at "start"
    rcases hv with ⟨rfl, rfl, _⟩ | ⟨a, rfl, ha⟩
    · walk_at "gob"
      exact q
    · walk_at "gob"
      exact q
theorem is_number_n (h : Num K H v t b) (q : Q (.bl true) H) : sp_is_number K [v] H Q E := ⟨v, t, b, rfl, h, q⟩
theorem is_number_i (h : G.Bd 4000 i) (q : Q (.bl true) H) : sp_is_number K [.int i] H Q E := is_number_n (.of_int h) q
theorem is_number_R (h : IsR K H a t b) (q : Q (.bl true) H) : sp_is_number K [.ref a] H Q E := is_number_n (.of_r h) q
def sp_of (K : PySem.W.Frag) : Sp := fun vs H Q _ => ∃ v t b, vs = [v] ∧ Num K H v t b ∧ ∀ x H', H x = none → G.Kp H H' → IsR K H' x t b → Q (.ref x) H'
end
end Lw

local macro_rules | `(tactic| walk_at "gx") => `(tactic| first
  | ((with_reducible refine Lw.is_number_i ?h ?_); (case h => walk_at "bdw"))
  | ((with_reducible refine Lw.is_number_R (t := ?z0) (b := ?z1) ?h ?_); (case h => walk_at "hp"))
  | ((with_reducible refine Lw.is_number_n (t := ?z0) (b := ?z1) ?h ?_); (case h => walk_at "hp"))
  | ((with_reducible refine Lw.mk_Rs ?h1 ?h2 ?h3 ?h4 ?_); (case h1 => first | assumption | omega); (case h2 => assumption); (case h3 => walk_at "bdw"); (case h4 => walk_at "bdw"); intro _ _ _ _ _)
  | ((with_reducible refine Lw.mk_R ?h1 ?h3 ?h4 ?_); (case h1 => first | assumption | omega); (case h3 => walk_at "bdw"); (case h4 => walk_at "bdw"); intro _ _ _ _ _ _ _ _))

namespace Lw
open PySem PySem.Spec PyProof.Rows L2
section
variable {P : Program} {w : World} {K : PySem.W.Frag} {mg : Str → Option Value} {base : Heap} {H H' : Hp} {Q : VK} {E : XK} {a p : Addr} {t b n d i j t' b' : Int} {v y : V}
theorem ok_Ratio_of (T : Tx K mg) : FnOk P w K mg base CX0 4 (a_Ratio_of K) (G.fdOf K (a_Ratio_of K)) ["number"] (sp_of K) := by
  refine G.ok_of (F_Ratio_of T) sc_Ratio_of (fun vs H Q E h => ?_) (fun cdv A outer s H vs Q E hr h => ?_)
  · obtain ⟨v, t, b, rfl, _⟩ := h
    rfl
  · obtain ⟨v, t, b, rfl, hv, q⟩ := h
    have hp := hv.pos
    have hc := hv.cop
    have ht := hv.bt
    have hb := hv.bb
    refine ⟨_, (pss_cons (ps_if (pt_not (pt_val (G.pe_smeth (G.pe_cl rfl (gl_Ratio T)) (rd_Ratio T) (sm_Ratio_is_number T) (ok_Ratio_is_number T) (hr.mono (by first | decide | omega)) (bi_Ratio_is_number T) .nil pass0 (pa_cons (pv 0) pa_nil)))) (pss_one ps_never) pss_nil)
    (pss_cons (ps_asg (pe_call (ok_parts_of T) (hr.mono (by first | decide | omega)) rfl (gl_parts_of T) (F_parts_of T).kp (bi_parts_of T) .nil pass0 (pa_cons (pv 0) pa_nil)) (pg_tup (n := 2) (by rfl) (pgs_cons (pg_name (i := 1) sc_Ratio_of.nd rfl (Or.inl rfl)) (pgs_cons (pg_name (i := 2) sc_Ratio_of.nd rfl (Or.inl rfl)) pgs_nil))))
    (pss_one (ps_ret (pe_make (mk_Ratio T) (ok_Ratio_init T) (hr.mono (by first | decide | omega)) rfl (gl_Ratio T) (bi_Ratio_init T) .nil pass0 (pa_cons (pv 1) (pa_cons (pv 2) pa_nil))))))), ?_⟩
    walk_at "start"
    walk_at "gob"
    rename_i x H2 n2 k2 r2
    exact q x H2 (G.Kp.back (by assumption) n2) (G.Kp.trans (by assumption) k2) r2
theorem of_R (h : IsR K H a t b) (q : ∀ x H', H x = none → G.Kp H H' → IsR K H' x t b → Q (.ref x) H') : sp_of K [.ref a] H Q E := ⟨.ref a, t, b, rfl, .of_r h, q⟩
theorem of_n (h : Num K H v t b) (q : ∀ x H', H x = none → G.Kp H H' → IsR K H' x t b → Q (.ref x) H') : sp_of K [v] H Q E := ⟨v, t, b, rfl, h, q⟩
/-- a comparison of a Ratio with a number -/
def sp_cmpR (K : PySem.W.Frag) (f : Int → Int → Bool) : Sp := fun vs H Q _ => ∃ a t b y t' b', vs = [.ref a, y] ∧ IsR K H a t b ∧ Num K H y t' b' ∧ ∀ H', G.Kp H H' → Q (.bl (f (t * b') (t' * b))) H'
theorem ok_Ratio_lt (T : Tx K mg) : FnOk P w K mg base CX0 2 (a_Ratio_lt K) (G.fdOf K (a_Ratio_lt K)) ["self", "other"] (sp_cmpR K fun x y => decide (x < y)) := by
  refine G.ok_of (F_Ratio_lt T) sc_Ratio_lt (fun vs H Q E h => ?_) (fun cdv A outer s H vs Q E hr h => ?_)
  · obtain ⟨a, t, b, y, t', b', rfl, _⟩ := h
    rfl
  · obtain ⟨a, t, b, y, t', b', rfl, ha, hy, q⟩ := h
    have h1 := ha.bt
    have h2 := ha.bb
    have h3 := hy.bt
    have h4 := hy.bb
    refine ⟨_, (pss_cons (ps_asg (pe_call (ok_parts_of T) (hr.mono (by first | decide | omega)) rfl (gl_parts_of T) (F_parts_of T).kp (bi_parts_of T) .nil pass0 (pa_cons (pv 1) pa_nil)) (pg_tup (n := 2) (by rfl) (pgs_cons (pg_name (i := 2) sc_Ratio_lt.nd rfl (Or.inl rfl)) (pgs_cons (pg_name (i := 3) sc_Ratio_lt.nd rfl (Or.inl rfl)) pgs_nil))))
    (pss_one (ps_ret (pe_cmpR G.op_ltG (pe_op G.op_mulG (pe_fld (pv 0) rfl) (pv 3)) (pe_op G.op_mulG (pv 2) (pe_fld (pv 0) rfl)) (nomark _))))), ?_⟩
    walk_at "start"
    walk_at "go"
    exact q _ (by assumption)
theorem ok_Ratio_le (T : Tx K mg) : FnOk P w K mg base CX0 2 (a_Ratio_le K) (G.fdOf K (a_Ratio_le K)) ["self", "other"] (sp_cmpR K fun x y => decide (x ≤ y)) := by
  refine G.ok_of (F_Ratio_le T) sc_Ratio_le (fun vs H Q E h => ?_) (fun cdv A outer s H vs Q E hr h => ?_)
  · obtain ⟨a, t, b, y, t', b', rfl, _⟩ := h
    rfl
  · obtain ⟨a, t, b, y, t', b', rfl, ha, hy, q⟩ := h
    have h1 := ha.bt
    have h2 := ha.bb
    have h3 := hy.bt
    have h4 := hy.bb
    refine ⟨_, (pss_cons (ps_asg (pe_call (ok_parts_of T) (hr.mono (by first | decide | omega)) rfl (gl_parts_of T) (F_parts_of T).kp (bi_parts_of T) .nil pass0 (pa_cons (pv 1) pa_nil)) (pg_tup (n := 2) (by rfl) (pgs_cons (pg_name (i := 2) sc_Ratio_le.nd rfl (Or.inl rfl)) (pgs_cons (pg_name (i := 3) sc_Ratio_le.nd rfl (Or.inl rfl)) pgs_nil))))
    (pss_one (ps_ret (pe_cmpR G.op_leG (pe_op G.op_mulG (pe_fld (pv 0) rfl) (pv 3)) (pe_op G.op_mulG (pv 2) (pe_fld (pv 0) rfl)) (nomark _))))), ?_⟩
    walk_at "start"
    walk_at "go"
    exact q _ (by assumption)
theorem ok_Ratio_gt (T : Tx K mg) : FnOk P w K mg base CX0 2 (a_Ratio_gt K) (G.fdOf K (a_Ratio_gt K)) ["self", "other"] (sp_cmpR K fun x y => decide (y < x)) := by
  refine G.ok_of (F_Ratio_gt T) sc_Ratio_gt (fun vs H Q E h => ?_) (fun cdv A outer s H vs Q E hr h => ?_)
  · obtain ⟨a, t, b, y, t', b', rfl, _⟩ := h
    rfl
  · obtain ⟨a, t, b, y, t', b', rfl, ha, hy, q⟩ := h
    have h1 := ha.bt
    have h2 := ha.bb
    have h3 := hy.bt
    have h4 := hy.bb
    refine ⟨_, (pss_cons (ps_asg (pe_call (ok_parts_of T) (hr.mono (by first | decide | omega)) rfl (gl_parts_of T) (F_parts_of T).kp (bi_parts_of T) .nil pass0 (pa_cons (pv 1) pa_nil)) (pg_tup (n := 2) (by rfl) (pgs_cons (pg_name (i := 2) sc_Ratio_gt.nd rfl (Or.inl rfl)) (pgs_cons (pg_name (i := 3) sc_Ratio_gt.nd rfl (Or.inl rfl)) pgs_nil))))
    (pss_one (ps_ret (pe_cmpR G.op_gtG (pe_op G.op_mulG (pe_fld (pv 0) rfl) (pv 3)) (pe_op G.op_mulG (pv 2) (pe_fld (pv 0) rfl)) (nomark _))))), ?_⟩
    walk_at "start"
    walk_at "go"
    exact q _ (by assumption)
theorem ok_Ratio_ge (T : Tx K mg) : FnOk P w K mg base CX0 2 (a_Ratio_ge K) (G.fdOf K (a_Ratio_ge K)) ["self", "other"] (sp_cmpR K fun x y => decide (y ≤ x)) := by
  refine G.ok_of (F_Ratio_ge T) sc_Ratio_ge (fun vs H Q E h => ?_) (fun cdv A outer s H vs Q E hr h => ?_)
  · obtain ⟨a, t, b, y, t', b', rfl, _⟩ := h
    rfl
  · obtain ⟨a, t, b, y, t', b', rfl, ha, hy, q⟩ := h
    have h1 := ha.bt
    have h2 := ha.bb
    have h3 := hy.bt
    have h4 := hy.bb
    refine ⟨_, (pss_cons (ps_asg (pe_call (ok_parts_of T) (hr.mono (by first | decide | omega)) rfl (gl_parts_of T) (F_parts_of T).kp (bi_parts_of T) .nil pass0 (pa_cons (pv 1) pa_nil)) (pg_tup (n := 2) (by rfl) (pgs_cons (pg_name (i := 2) sc_Ratio_ge.nd rfl (Or.inl rfl)) (pgs_cons (pg_name (i := 3) sc_Ratio_ge.nd rfl (Or.inl rfl)) pgs_nil))))
    (pss_one (ps_ret (pe_cmpR G.op_geG (pe_op G.op_mulG (pe_fld (pv 0) rfl) (pv 3)) (pe_op G.op_mulG (pv 2) (pe_fld (pv 0) rfl)) (nomark _))))), ?_⟩
    walk_at "start"
    walk_at "go"
    exact q _ (by assumption)
theorem Num.ty (T : Tx K mg) (h : Num K H y t b) : ∃ tv, TyX K H y tv ∧ PySem.W.notFirst K (He.ga K "Ratio") tv = true := by
  rcases h with ⟨rfl, _, _⟩ | ⟨a, rfl, r⟩
  · exact ⟨_, .base (.int _), nf_Ratio_int T⟩
  · exact ⟨_, r.ty T, nf_Ratio_Ratio T⟩
/-- r op y, r a Ratio -/
theorem cmp_R (T : Tx K mg) {f : Int → Int → Bool} (h : IsR K H a t b) (hy : Num K H y t' b') (q : ∀ H', G.Kp H H' → Q (.bl (f (t * b') (t' * b))) H') : G.rCmpO K (He.ga K "Ratio") (sp_cmpR K f) E (.ref a) y H Q := by
  obtain ⟨dx, e⟩ := h.at_
  obtain ⟨tv, ty, nf⟩ := hy.ty T
  exact ⟨a, dx, _, tv, rfl, e, ty, nf, a, t, b, y, t', b', rfl, h, hy, q⟩
theorem cmp_Ri (T : Tx K mg) {f : Int → Int → Bool} (h : IsR K H a t b) (hi : G.Bd 4000 i) (q : ∀ H', G.Kp H H' → Q (.bl (f (t * 1) (i * b))) H') : G.rCmpO K (He.ga K "Ratio") (sp_cmpR K f) E (.ref a) (.int i) H Q := cmp_R T h (.of_int hi) q
theorem cmp_RR (T : Tx K mg) {f : Int → Int → Bool} {a' : Addr} (h : IsR K H a t b) (hy : IsR K H a' t' b') (q : ∀ H', G.Kp H H' → Q (.bl (f (t * b') (t' * b))) H') : G.rCmpO K (He.ga K "Ratio") (sp_cmpR K f) E (.ref a) (.ref a') H Q := cmp_R T h (.of_r hy) q
end
end Lw

local macro_rules | `(tactic| walk_at "gx") => `(tactic| first
  | ((with_reducible refine Lw.of_R (t := ?z0) (b := ?z1) ?h ?_); (case h => walk_at "hp"); intro _ _ _ _ _)
  | ((with_reducible refine Lw.cmp_Ri (t := ?z0) (b := ?z1) (by assumption) ?h ?hi ?_); (case h => walk_at "hp"); (case hi => walk_at "bdw"); intro _ _)
  | ((with_reducible refine Lw.cmp_RR (t := ?z0) (b := ?z1) (t' := ?z2) (b' := ?z3) (by assumption) ?h ?hy ?_); (case h => walk_at "hp"); (case hy => walk_at "hp"); intro _ _)
  | ((with_reducible refine Lw.of_n (t := ?z0) (b := ?z1) ?h ?_); (case h => walk_at "hp"); intro _ _ _ _ _)
  | ((with_reducible refine Lw.cmp_R (t := ?z0) (b := ?z1) (t' := ?z2) (b' := ?z3) (by assumption) ?h ?hy ?_); (case h => walk_at "hp"); (case hy => walk_at "hp"); intro _ _))

namespace Lw
open PySem PySem.Spec PyProof.Rows L2
section
variable {P : Program} {w : World} {K : PySem.W.Frag} {mg : Str → Option Value} {base : Heap} {H H' : Hp} {Q : VK} {E : XK} {p q l r x : Addr} {a b c d t n : Int} {v y : V}
/-- a piece between a / b and c / d -/
structure IsP (K : PySem.W.Frag) (H : Hp) (p l r : Addr) (a b c d : Int) : Prop where
  at_ : ∃ dx, H p = some (.ins (He.ga K "Piece") dx [("left", .ref l), ("right", .ref r)])
  il : IsR K H l a b
  ir : IsR K H r c d
  nb : b * c - a * d = 1
  h0 : 0 ≤ a
  h1 : a < b
  h2 : 0 < c
  h3 : c ≤ d
theorem IsP.kp (k : G.Kp H H') (h : IsP K H p l r a b c d) : IsP K H' p l r a b c d := ⟨let ⟨dx, e⟩ := h.at_; ⟨dx, k _ _ e⟩, h.il.kp k, h.ir.kp k, h.nb, h.h0, h.h1, h.h2, h.h3⟩
theorem IsP.md (k : G.Md q H H') (h : IsP K H p l r a b c d) : IsP K H' p l r a b c d := ⟨let ⟨dx, e⟩ := h.at_; ⟨dx, k.ins e⟩, h.il.md k, h.ir.md k, h.nb, h.h0, h.h1, h.h2, h.h3⟩
theorem IsR.mi (k : G.Mi x H H') (m : p ≠ x) (h : IsR K H p a b) : IsR K H' p a b := ⟨let ⟨dx, e⟩ := h.at_; ⟨dx, k _ _ m e⟩, h.pos, h.cop, h.bt, h.bb⟩
theorem IsR.ne_new {C dx : Addr} (h : IsR K H p a b) (e : H x = some (.ins C dx [])) : p ≠ x := let ⟨_, e'⟩ := h.at_; ne_of e' e (by intro z; cases z)
theorem IsR.ne_one {C dx : Addr} {f : Str} {v : V} (h : IsR K H p a b) (e : H x = some (.ins C dx [(f, v)])) : p ≠ x := let ⟨_, e'⟩ := h.at_; ne_of e' e (by intro z; cases z)
theorem lk3 {x y : V} : List.lookup ("left" : Str) ([("left", x), ("right", y)] : List (Str × V)) = some x := by simp [List.lookup]
theorem lk4 {x y : V} : List.lookup ("right" : Str) ([("left", x), ("right", y)] : List (Str × V)) = some y := by
  have e : (("right" : Str) == "left") = false := by decide +kernel
  simp [List.lookup, e]
theorem fld_left (T : Tx K mg) (h : IsP K H p l r a b c d) (z : Q (.ref l) H) : G.FldK K "left" (.ref p) H Q := let ⟨_, e⟩ := h.at_; G.st_fldK e (cl_Piece T) (na_Piece_left T) lk3 z
theorem fld_right (T : Tx K mg) (h : IsP K H p l r a b c d) (z : Q (.ref r) H) : G.FldK K "right" (.ref p) H Q := let ⟨_, e⟩ := h.at_; G.st_fldK e (cl_Piece T) (na_Piece_right T) lk4 z
theorem pf_P {x y : V} : putF ("right" : Str) y (putF ("left" : Str) x []) = ([("left", x), ("right", y)] : List (Str × V)) := by
  have e : ¬ (("left" : Str) = "right") := by decide +kernel
  show (if ("left" : Str) = "right" then [(("left" : Str), y)] else (("left" : Str), x) :: putF "right" y []) = ([("left", x), ("right", y)] : List (Str × V))
  rw [if_neg e]
  rfl
end
end Lw

local macro_rules | `(tactic| walk_at "hp") => `(tactic| first
  | (refine Lw.IsP.kp (by assumption) ?_; walk_at "hp")
  | (refine Lw.IsP.md (by assumption) ?_; walk_at "hp"))
local macro_rules | `(tactic| walk_at "gx") => `(tactic| first
  | ((with_reducible refine Lw.fld_left (l := ?z0) (r := ?z1) (a := ?z2) (b := ?z3) (c := ?z4) (d := ?z5) (by assumption) ?h ?_); (case h => walk_at "hp"))
  | ((with_reducible refine Lw.fld_right (l := ?z0) (r := ?z1) (a := ?z2) (b := ?z3) (c := ?z4) (d := ?z5) (by assumption) ?h ?_); (case h => walk_at "hp")))

namespace Lw
open PySem PySem.Spec PyProof.Rows L2
section
variable {P : Program} {w : World} {K : PySem.W.Frag} {mg : Str → Option Value} {base : Heap} {H H' : Hp} {Q : VK} {E : XK} {p q l r x : Addr} {a b c d t n : Int} {v y : V}
def sp_Piece_init (K : PySem.W.Frag) : Sp := fun vs H Q _ => ∃ x dx l r a b c d, vs = [.ref x, .ref l, .ref r] ∧ H x = some (.ins (He.ga K "Piece") dx []) ∧ IsR K H l a b ∧ IsR K H r c d ∧ 0 ≤ a ∧ a < b ∧ 0 < c ∧ c ≤ d ∧ b * c - a * d = 1 ∧
  ∀ l' r' H', G.Mi x H H' → IsP K H' x l' r' a b c d → Q .non H'
theorem ok_Piece_init (T : Tx K mg) : FnOk P w K mg base CX0 5 (a_Piece_init K) (G.fdOf K (a_Piece_init K)) ["self", "left", "right"] (sp_Piece_init K) := by
  refine G.ok_of (F_Piece_init T) sc_Piece_init (fun vs H Q E h => ?_) (fun cdv A outer s H vs Q E hr h => ?_)
  · obtain ⟨x, dx, l, r, a, b, c, d, rfl, _⟩ := h
    rfl
  · obtain ⟨x, dx, l, r, a, b, c, d, rfl, hx, il, ir, h0, h1, h2, h3, nb, z⟩ := h
    refine ⟨_, (pss_cons (ps_if (PW.pt (pw_or (pt_not (pt_val (G.pe_smeth (G.pe_cl rfl (gl_Ratio T)) (rd_Ratio T) (sm_Ratio_is_number T) (ok_Ratio_is_number T) (hr.mono (by first | decide | omega)) (bi_Ratio_is_number T) .nil pass0 (pa_cons (pv 1) pa_nil)))) (pw_or (pt_cmpR (G.op_cmpO (fun _ _ => rfl) (ow_Ratio_lt T) (ok_Ratio_lt T) (hr.mono (by decide)) (bi_Ratio_lt T) pass0) (pv 1) pe_int (nomark _)) (pw_or1 (pt_cmpR (G.op_cmpO (fun _ _ => rfl) (ow_Ratio_ge T) (ok_Ratio_ge T) (hr.mono (by decide)) (bi_Ratio_ge T) pass0) (pv 1) pe_int (nomark _)))))) (pss_one ps_never) pss_nil)
    (pss_cons (ps_if (PW.pt (pw_or (pt_not (pt_val (G.pe_smeth (G.pe_cl rfl (gl_Ratio T)) (rd_Ratio T) (sm_Ratio_is_number T) (ok_Ratio_is_number T) (hr.mono (by first | decide | omega)) (bi_Ratio_is_number T) .nil pass0 (pa_cons (pv 2) pa_nil)))) (pw_or (pt_cmpR (G.op_cmpO (fun _ _ => rfl) (ow_Ratio_le T) (ok_Ratio_le T) (hr.mono (by decide)) (bi_Ratio_le T) pass0) (pv 2) pe_int (nomark _)) (pw_or1 (pt_cmpR (G.op_cmpO (fun _ _ => rfl) (ow_Ratio_gt T) (ok_Ratio_gt T) (hr.mono (by decide)) (bi_Ratio_gt T) pass0) (pv 2) pe_int (nomark _)))))) (pss_one ps_never) pss_nil)
    (pss_cons (ps_fld (pv 0) (G.pe_smeth (G.pe_cl rfl (gl_Ratio T)) (rd_Ratio T) (sm_Ratio_of T) (ok_Ratio_of T) (hr.mono (by first | decide | omega)) (bi_Ratio_of T) .nil pass0 (pa_cons (pv 1) pa_nil)) rfl)
    (pss_cons (ps_fld (pv 0) (G.pe_smeth (G.pe_cl rfl (gl_Ratio T)) (rd_Ratio T) (sm_Ratio_of T) (ok_Ratio_of T) (hr.mono (by first | decide | omega)) (bi_Ratio_of T) .nil pass0 (pa_cons (pv 2) pa_nil)) rfl)
    (pss_one (ps_if (pt_cmpR (G.op_neG hr.units) (pe_op G.op_subG (pe_op G.op_mulG (pe_fld (pe_fld (pv 0) rfl) rfl) (pe_fld (pe_fld (pv 0) rfl) rfl)) (pe_op G.op_mulG (pe_fld (pe_fld (pv 0) rfl) rfl) (pe_fld (pe_fld (pv 0) rfl) rfl))) pe_int (nomark _)) (pss_one ps_never) pss_nil)))))), ?_⟩
    walk_at "start"
    walk_at "gob"
    rename_i l' H5 _ _ il5
    have hx5 : H5 x = some (.ins (He.ga K "Piece") dx []) := by walk_at "hp"
    have ir5 : IsR K H5 r c d := by walk_at "hp"
    have k5 : G.Kp H H5 := fun o u e => by walk_at "hp"
    refine G.st_setfldM hx5 (cl_Piece T) (na_Piece_left T) (by decide) fun H6 m6 e6 => ?_
    have ir6 := ir5.mi m6 (ir5.ne_new hx5)
    have il6 := il5.mi m6 (il5.ne_new hx5)
    clear hx5 ir5 il5
    walk_at "gob"
    rename_i r' H7 n7 k7 ir7
    have il7 := il6.kp k7
    have e7 := k7 _ _ e6
    refine G.st_setfldM e7 (cl_Piece T) (na_Piece_right T) (by show 1 < 1000; decide) fun H8 m8 e8 => ?_
    have il8 := il7.mi m8 (il7.ne_one e7)
    have ir8 := ir7.mi m8 (ir7.ne_one e7)
    have e9 : H8 x = some (.ins (He.ga K "Piece") dx [("left", .ref l'), ("right", .ref r')]) := e8.trans (congrArg (fun z => some (HO.ins (He.ga K "Piece") dx z)) pf_P)
    have ip : IsP K H8 x l' r' a b c d := ⟨⟨dx, e9⟩, il8, ir8, nb, h0, h1, h2, h3⟩
    have mi : G.Mi x H H8 := ((G.Mi.of_kp k5).trans m6).trans ((G.Mi.of_kp k7).trans m8)
    clear il7 e7 il6 ir6 e6 e8 ir7
    have q1 := il.bt
    have q2 := il.bb
    have q3 := ir.bt
    have q4 := ir.bb
    walk_at "gob"
    exact z l' r' H8 mi ip
theorem mk_P {la ra : Addr} (il : IsR K H la a b) (ir : IsR K H ra c d) (h0 : 0 ≤ a) (h1 : a < b) (h2 : 0 < c) (h3 : c ≤ d) (nb : b * c - a * d = 1) (q : ∀ x H' l' r', H x = none → G.Kp H H' → IsP K H' x l' r' a b c d → Q (.ref x) H') :
    G.MakeK (He.ga K "Piece") (sp_Piece_init K) [] E [.ref la, .ref ra] H Q :=
  G.st_mkK fun x dx H1 hn k hx => ⟨x, dx, la, ra, a, b, c, d, rfl, hx, il.kp k, ir.kp k, h0, h1, h2, h3, nb, fun l' r' H' m ip => ⟨rfl, q x H' l' r' hn (G.Kp.mi hn k m) ip⟩⟩
/-- value in piece, a fraction t / n -/
def sp_contains (K : PySem.W.Frag) : Sp := fun vs H Q _ => ∃ p l r a b c d f t n, vs = [.ref p, .ref f] ∧ IsP K H p l r a b c d ∧ IsR K H f t n ∧ ∀ H', G.Kp H H' → Q (.bl (decide (a * n < t * b) && decide (t * d < c * n))) H'
theorem ok_Piece_contains (T : Tx K mg) : FnOk P w K mg base CX0 3 (a_Piece_contains K) (G.fdOf K (a_Piece_contains K)) ["self", "value"] (sp_contains K) := by
  refine G.ok_of (F_Piece_contains T) sc_Piece_contains (fun vs H Q E h => ?_) (fun cdv A outer s H vs Q E hr h => ?_)
  · obtain ⟨p, l, r, a, b, c, d, f, t, n, rfl, _⟩ := h
    rfl
  · obtain ⟨p, l, r, a, b, c, d, f, t, n, rfl, ip, ir, q⟩ := h
    have i1 := ip.il
    have i2 := ip.ir
    refine ⟨_, (pss_one (ps_ret (pe_and (pe_callB G.call_isiG (by rfl) (fr_isinstance T) boot_isinstance (pa_cons (pv 1) (pa_cons (G.pe_cl rfl (gl_Ratio T)) pa_nil))) (pe_and (pe_cmpR (G.op_cmpO (fun _ _ => rfl) (ow_Ratio_lt T) (ok_Ratio_lt T) (hr.mono (by decide)) (bi_Ratio_lt T) pass0) (pe_fld (pv 0) rfl) (pv 1) (nomark _)) (pe_one (pe_cmpR (G.op_cmpO (fun _ _ => rfl) (ow_Ratio_lt T) (ok_Ratio_lt T) (hr.mono (by decide)) (bi_Ratio_lt T) pass0) (pv 1) (pe_fld (pv 0) rfl) (nomark _))))))), ?_⟩
    walk_at "start"
    walk_at "gob"
    · rename_i hc _ _
      have e := q _ (G.Kp.trans (by assumption) (by assumption))
      rw [decide_eq_true hc] at e
      exact e
    · rename_i hc
      have e := q _ (by assumption)
      rw [decide_eq_false hc] at e
      exact e
theorem notIn_P {f : Addr} (ip : IsP K H p l r a b c d) (ir : IsR K H f t n) (q : ∀ H', G.Kp H H' → Q (.bl (!(decide (a * n < t * b) && decide (t * d < c * n)))) H') : G.rInO (He.ga K "Piece") true (sp_contains K) E (.ref f) (.ref p) H Q := by
  obtain ⟨dx, e⟩ := ip.at_
  exact ⟨p, dx, _, rfl, e, p, l, r, a, b, c, d, f, t, n, rfl, ip, ir, fun H' k => ⟨_, rfl, q H' k⟩⟩
/-- the spot of t / n -/
def sp_spot (K : PySem.W.Frag) : Sp := fun vs H Q _ => ∃ p l r a b c d f t n, vs = [.ref p, .ref f] ∧ IsP K H p l r a b c d ∧ IsR K H f t n ∧ a * n < t * b ∧ t * d < c * n ∧
  ∀ x H', H x = none → G.Kp H H' → H' x = some (.tup [.int (c * n - d * t), .int (b * t - a * n)]) → Q (.ref x) H'
end
end Lw

local macro_rules | `(tactic| walk_at "gx") => `(tactic| first
  | ((with_reducible refine Lw.mk_P (a := ?z0) (b := ?z1) (c := ?z2) (d := ?z3) ?il ?ir ?h0 ?h1 ?h2 ?h3 ?nb ?_); (case il => walk_at "hp"); (case ir => walk_at "hp"); (case h0 => first | assumption | omega); (case h1 => first | assumption | omega); (case h2 => first | assumption | omega); (case h3 => first | assumption | omega); (case nb => assumption); intro _ _ _ _ _ _ _)
  | ((with_reducible refine Lw.notIn_P (l := ?z0) (r := ?z1) (a := ?z2) (b := ?z3) (c := ?z4) (d := ?z5) (t := ?z6) (n := ?z7) ?ip ?ir ?_); (case ip => walk_at "hp"); (case ir => walk_at "hp"); intro _ _))

namespace Lw
open PySem PySem.Spec PyProof.Rows L2
section
variable {P : Program} {w : World} {K : PySem.W.Frag} {mg : Str → Option Value} {base : Heap} {H H' : Hp} {Q : VK} {E : XK} {p q l r x : Addr} {a b c d t n : Int} {v y : V}
theorem ok_Piece_spot (T : Tx K mg) : FnOk P w K mg base CX0 4 (a_Piece_spot K) (G.fdOf K (a_Piece_spot K)) ["self", "fifth"] (sp_spot K) := by
  refine G.ok_of (F_Piece_spot T) sc_Piece_spot (fun vs H Q E h => ?_) (fun cdv A outer s H vs Q E hr h => ?_)
  · obtain ⟨p, l, r, a, b, c, d, f, t, n, rfl, _⟩ := h
    rfl
  · obtain ⟨p, l, r, a, b, c, d, f, t, n, rfl, ip, ir, h1, h2, q⟩ := h
    have i1 := ip.il
    have i2 := ip.ir
    have b1 := i1.bt
    have b2 := i1.bb
    have b3 := i2.bt
    have b4 := i2.bb
    have b5 := ir.bt
    have b6 := ir.bb
    refine ⟨_, (pss_cons (ps_if (pt_cmpR (G.op_notInO (ow_Piece_contains T) (ok_Piece_contains T) (hr.mono (by decide)) (bi_Piece_contains T) pass0) (pv 1) (pv 0) (by rfl)) (pss_one ps_never) pss_nil)
    (pss_cons (ps_set (i := 2) sc_Piece_spot.nd rfl (Or.inl rfl) (pe_op G.op_subG (pe_op G.op_mulG (pe_fld (pe_fld (pv 0) rfl) rfl) (pe_fld (pv 1) rfl)) (pe_op G.op_mulG (pe_fld (pe_fld (pv 0) rfl) rfl) (pe_fld (pv 1) rfl))))
    (pss_one (ps_ret (pe_tup (pa_cons (pv 2) (pa_cons (pe_op G.op_subG (pe_op G.op_mulG (pe_fld (pe_fld (pv 0) rfl) rfl) (pe_fld (pv 1) rfl)) (pe_op G.op_mulG (pe_fld (pe_fld (pv 0) rfl) rfl) (pe_fld (pv 1) rfl))) pa_nil))))))), ?_⟩
    walk_at "start"
    walk_at "gob"
    rename_i x H2 n2 k2 e2
    exact q x H2 (G.Kp.back (by assumption) n2) (G.Kp.trans (by assumption) k2) e2
theorem spot_P {f : Addr} (ip : IsP K H p l r a b c d) (ir : IsR K H f t n) (h1 : a * n < t * b) (h2 : t * d < c * n) (q : ∀ x H', H x = none → G.Kp H H' → H' x = some (.tup [.int (c * n - d * t), .int (b * t - a * n)]) → Q (.ref x) H') :
    sp_spot K [.ref p, .ref f] H Q E := ⟨p, l, r, a, b, c, d, f, t, n, rfl, ip, ir, h1, h2, q⟩
theorem recv_P {m : Str} {R : Prop} (ip : IsP K H p l r a b c d) (h1 : (m == "left") = false) (h2 : (m == "right") = false) (q : R) : G.RecvK (He.ga K "Piece") m (.ref p) H R := by
  obtain ⟨dx, e⟩ := ip.at_
  exact G.st_recv e (by simp [List.lookup, h1, h2]) q
/-- the kind of the spot (u, v) -/
def kindS (u v : Int) : Str := if v = 1 then (if u = 1 then "middle" else "left") else if u = 1 then "right" else "other"
def sp_kind (K : PySem.W.Frag) : Sp := fun vs H Q _ => ∃ p l r a b c d f t n, vs = [.ref p, .ref f] ∧ IsP K H p l r a b c d ∧ IsR K H f t n ∧ a * n < t * b ∧ t * d < c * n ∧
  ∀ H', G.Kp H H' → Q (.str (kindS (c * n - d * t) (b * t - a * n))) H'
end
end Lw

local macro_rules | `(tactic| walk_at "gx") => `(tactic| first
  | ((with_reducible refine Lw.spot_P (l := ?z0) (r := ?z1) (a := ?z2) (b := ?z3) (c := ?z4) (d := ?z5) (t := ?z6) (n := ?z7) ?ip ?ir ?h1 ?h2 ?_); (case ip => walk_at "hp"); (case ir => walk_at "hp"); (case h1 => assumption); (case h2 => assumption); intro _ _ _ _ _)
  | ((with_reducible refine Lw.recv_P (l := ?z0) (r := ?z1) (a := ?z2) (b := ?z3) (c := ?z4) (d := ?z5) ?ip ?h1 ?h2 ?_); (case ip => walk_at "hp"); (case h1 => decide +kernel); (case h2 => decide +kernel)))

namespace Lw
open PySem PySem.Spec PyProof.Rows L2
section
variable {P : Program} {w : World} {K : PySem.W.Frag} {mg : Str → Option Value} {base : Heap} {H H' : Hp} {Q : VK} {E : XK} {p q l r x : Addr} {a b c d t n : Int} {v y : V}
theorem ok_Piece_kind (T : Tx K mg) : FnOk P w K mg base CX0 5 (a_Piece_kind K) (G.fdOf K (a_Piece_kind K)) ["self", "fifth"] (sp_kind K) := by
  refine G.ok_of (F_Piece_kind T) sc_Piece_kind (fun vs H Q E h => ?_) (fun cdv A outer s H vs Q E hr h => ?_)
  · obtain ⟨p, l, r, a, b, c, d, f, t, n, rfl, _⟩ := h
    rfl
  · obtain ⟨p, l, r, a, b, c, d, f, t, n, rfl, ip, ir, h1, h2, q⟩ := h
    refine ⟨_, (pss_cons (ps_asg (pe_meth (pv 0) (cl_Piece T) (me_Piece_spot T) (ok_Piece_spot T) (hr.mono (by first | decide | omega)) (bi_Piece_spot T) .nil pass0 (pa_cons (pv 1) pa_nil)) (pg_tup (n := 2) (by rfl) (pgs_cons (pg_name (i := 2) sc_Piece_kind.nd rfl (Or.inl rfl)) (pgs_cons (pg_name (i := 3) sc_Piece_kind.nd rfl (Or.inl rfl)) pgs_nil))))
    (pss_cons (ps_if (pt_cmpR (G.op_eqG hr.units) (pv 3) pe_int (nomark _)) (pss_one (ps_ret (pe_ifExp (pt_cmpR (G.op_eqG hr.units) (pv 2) pe_int (nomark _)) pe_str pe_str))) pss_nil)
    (pss_one (ps_ret (pe_ifExp (pt_cmpR (G.op_eqG hr.units) (pv 2) pe_int (nomark _)) pe_str pe_str))))), ?_⟩
    walk_at "start"
    walk_at "gob"
    all_goals (have e := q _ (by assumption); unfold kindS at e; simp_all)
theorem kind_P {f : Addr} (ip : IsP K H p l r a b c d) (ir : IsR K H f t n) (h1 : a * n < t * b) (h2 : t * d < c * n) (q : ∀ H', G.Kp H H' → Q (.str (kindS (c * n - d * t) (b * t - a * n))) H') :
    sp_kind K [.ref p, .ref f] H Q E := ⟨p, l, r, a, b, c, d, f, t, n, rfl, ip, ir, h1, h2, q⟩
end
end Lw

namespace Lw
open PySem PySem.Spec PyProof.Rows L2
/-! ### the pen -/
section
variable {P : Program} {w : World} {K : PySem.W.Frag} {mg : Str → Option Value} {base : Heap} {H H' : Hp} {Q : VK} {E : XK} {p q l r x : Addr} {a b c d t m : Int} {v y : V} {n n' : Nat}
/-- the state of the drawing, at most n cells taken -/
def Pen (H : Hp) (p : Addr) (n : Nat) : Prop := ∃ (l : Addr) (i g : Int) (ns : List Int), H p = some (.lst [.ref l, .int i, .int g]) ∧ H l = some (.lst (ns.map V.int)) ∧ l ≠ p ∧ 0 ≤ i ∧ i ≤ (n : Int) ∧ 0 ≤ g ∧ ns.length ≤ 63
theorem Pen.mono (h : Pen H p n) (l : n ≤ n') : Pen H p n' := by
  obtain ⟨l', i, g, ns, h1, h2, h3, h4, h5, h6, h7⟩ := h
  exact ⟨l', i, g, ns, h1, h2, h3, h4, by omega, h6, h7⟩
theorem Pen.kp (k : G.Kp H H') (h : Pen H p n) : Pen H' p n := by
  obtain ⟨l', i, g, ns, h1, h2, h3⟩ := h
  exact ⟨l', i, g, ns, k _ _ h1, k _ _ h2, h3⟩
theorem Pen.is (h : Pen H p n) : ∃ xs, H p = some (.lst xs) := let ⟨_, _, _, _, e, _⟩ := h; ⟨_, e⟩
/-- a list made on the way changes: the pen stays -/
theorem Pen.md (k : G.Md q H H') (hq : ∀ xs, H q = some (.lst xs) → ∀ (l : Addr) (i g : Int) (ns : List Int), H p = some (.lst [.ref l, .int i, .int g]) → H l = some (.lst (ns.map V.int)) → p ≠ q ∧ l ≠ q) (h : Pen H p n) : Pen H' p n := by
  obtain ⟨l', i, g, ns, h1, h2, h3⟩ := h
  obtain ⟨xs, e⟩ := k.was
  obtain ⟨n1, n2⟩ := hq xs e l' i g ns h1 h2
  exact ⟨l', i, g, ns, k.lst h1 n1, k.lst h2 n2, h3⟩
theorem dp_ints {ns : List Int} : DpAll K H (ns.map V.int) (ns.map PyData.int) := by
  induction ns with
  | nil => exact .nil
  | cons n r ih => exact .cons (.int n) ih
theorem lay_ints (ns : List Int) : PyData.canLayAll0 (ns.map PyData.int) = true ∧ PyData.depthAll (ns.map PyData.int) = 0 := by
  induction ns with
  | nil => exact ⟨rfl, rfl⟩
  | cons n r ih => exact ⟨by simp [PyData.canLayAll0, PyData.canLay0, ih.1], by simp [PyData.depthAll, PyData.depth, ih.2]⟩
theorem shaped_ints (ns : List Int) : SeqAt.shaped (.list (ns.map PyData.int)) = true := by
  have h := lay_ints ns
  simp [SeqAt.shaped, PyData.canLay0, PyData.depth, h.1, h.2]
theorem ne_empty {ns : List Int} (h1 : SqL K H p (ns.map V.int)) (h2 : SqL K H q []) (z : Q (.bl (!decide (ns = []))) H) : G.rNeG K (.ref p) (.ref q) H Q := by
  refine G.ne_dd (.lst h1 dp_ints) (.lst h2 .nil) (shaped_ints ns) (by decide) ?_
  have e : PyData.eqv (.list (ns.map PyData.int)) (.list []) = decide (ns = []) := by
    cases ns with
    | nil => rfl
    | cons n r => simp [PyData.eqv, PyData.eqvAll]
  rw [e]
  exact z
theorem mix_small {m b c1 c2 c3 : Int} (h0 : 0 ≤ m) (h1 : m < 2147483648) (h2 : 0 ≤ b) (h3 : b ≤ 1000000) (h4 : 0 ≤ c1) (h5 : c1 ≤ 1000) (h6 : 0 ≤ c2) (h7 : c2 ≤ 100000) (h8 : 0 ≤ c3) (h9 : c3 ≤ 1000000) :
    (m * (2 * b + c1) + c2 * b * b + c3).natAbs < 2 ^ 64 := by
  have e1 : m * (2 * b + c1) ≤ 2147483648 * 2001000 := Int.mul_le_mul (by omega) (by omega) (by omega) (by omega)
  have e2 : 0 ≤ m * (2 * b + c1) := Int.mul_nonneg h0 (by omega)
  have e3 : c2 * b ≤ 100000 * 1000000 := Int.mul_le_mul h7 h3 h2 (by omega)
  have e4 : 0 ≤ c2 * b := Int.mul_nonneg h6 h2
  have e5 : c2 * b * b ≤ (100000 * 1000000) * 1000000 := Int.mul_le_mul e3 h3 h2 (by omega)
  have e6 : 0 ≤ c2 * b * b := Int.mul_nonneg e4 h2
  omega
theorem cell_at {ns : List Int} {k : Int} (h0 : 0 ≤ k) (h1 : k < (ns.length : Int)) : ∃ c, atI (ns.map V.int) k = some (.int c) := by
  obtain ⟨j, rfl⟩ := Int.eq_ofNat_of_zero_le h0
  have hj : j < ns.length := by omega
  exact ⟨ns[j], atI_nat (by simp [hj])⟩
end
end Lw

local macro_rules | `(tactic| walk_at "gx") => `(tactic| ((with_reducible refine G.pow_ii (z := ?z0) ?h ?e ?_); (case h => (refine ⟨by omega, by omega, ?_⟩; refine Lw.mix_small ?_ ?_ ?_ ?_ ?_ ?_ ?_ ?_ ?_ ?_ <;> omega)); (case e => ((simp only [Int.reduceToNat]); rfl))))

namespace Lw
open PySem PySem.Spec PyProof.Rows L2
section
variable {P : Program} {w : World} {K : PySem.W.Frag} {mg : Str → Option Value} {base : Heap} {H H' : Hp} {Q : VK} {E : XK} {p q l r x : Addr} {a b c d t m : Int} {v y : V} {n n' : Nat}
def sp_draw : Sp := fun vs H Q _ => ∃ p m n, vs = [.ref p, .int m] ∧ Pen H p n ∧ n < 1000000 ∧ 0 < m ∧ G.Bd 8000 m ∧ ∀ d H', G.Md p H H' → Pen H' p (n + 1) → 0 ≤ d → d < m → Q (.int d) H'
theorem ok_law_draw (T : Tx K mg) : FnOk P w K mg base CX0 1 (a_law_draw K) (G.fdOf K (a_law_draw K)) ["_law_pen_here", "_law_many"] sp_draw := by
  refine G.ok_of (F_law_draw T) sc_law_draw (fun vs H Q E h => ?_) (fun cdv A outer s H vs Q E hr h => ?_)
  · obtain ⟨p, m, n, rfl, _⟩ := h
    rfl
  · obtain ⟨p, m, n, rfl, ⟨l, i, g, ns, hp, hl, nlp, i0, i1, g0, hz⟩, hn, m0, bm, q⟩ := h
    refine ⟨_, (pss_cons (ps_if (pt_cmpR G.op_gtG (pe_ix ix_seq (pv 0) pe_int (fun _ _ => rfl)) pe_int (nomark _)) (pss_cons (ps_set (i := 2) sc_law_draw.nd rfl (Or.inl rfl) (pe_op G.op_modG (pe_callTy G.call_intG (by rfl) (fr_int T) boot_int (pa_cons (pe_ix ix_seq (pv 0) pe_int (fun _ _ => rfl)) pa_nil)) (pv 1)))
    (pss_cons (ps_asg (pe_op G.op_divG (pe_callTy G.call_intG (by rfl) (fr_int T) boot_int (pa_cons (pe_ix ix_seq (pv 0) pe_int (fun _ _ => rfl)) pa_nil)) (pv 1)) (pg_sub (pv 0) pe_int set_list))
    (pss_one (ps_ret (pv 2))))) pss_nil)
    (pss_cons (ps_set (i := 3) sc_law_draw.nd rfl (Or.inl rfl) (pe_ix ix_seq (pv 0) pe_int (fun _ _ => rfl)))
    (pss_cons (ps_asg (pe_op G.op_addG (pv 3) pe_int) (pg_sub (pv 0) pe_int set_list))
    (pss_cons (ps_set (i := 4) sc_law_draw.nd rfl (Or.inl rfl) (pe_op G.op_addG (pe_op G.op_mulG pe_int (pv 3)) pe_int))
    (pss_cons (ps_if (pt_cmpR (G.op_neG hr.units) (pe_ix ix_seq (pv 0) pe_int (fun _ _ => rfl)) (pe_lst pa_nil) (nomark _)) (pss_one (ps_set (i := 4) sc_law_draw.nd rfl (Or.inl rfl) (pe_ix ix_seq (pe_ix ix_seq (pv 0) pe_int (fun _ _ => rfl)) (pe_op G.op_modG (pe_callTy G.call_intG (by rfl) (fr_int T) boot_int (pa_cons (pv 3) pa_nil)) (pe_callB G.call_lenG (by rfl) (fr_len T) PySem.boot_len (pa_cons (pe_ix ix_seq (pv 0) pe_int (fun _ _ => rfl)) pa_nil))) (fun _ _ => rfl)))) pss_nil)
    (pss_cons (ps_if (PW.pt (pw_and (pt_cmpR G.op_ltG (pv 3) (pe_callB G.call_lenG (by rfl) (fr_len T) PySem.boot_len (pa_cons (pe_ix ix_seq (pv 0) pe_int (fun _ _ => rfl)) pa_nil)) (nomark _)) (pw_and1 (pt_cmpR G.op_geG (pe_callB G.call_absG (by rfl) (fr_abs T) boot_abs (pa_cons (pv 4) pa_nil)) (pe_op G.op_powG pe_int pe_int) (nomark _))))) (pss_cons (ps_set (i := 5) sc_law_draw.nd rfl (Or.inl rfl) (pe_op G.op_addG (pe_op G.op_mulG pe_int (pe_op G.op_subG (pe_callB G.call_absG (by rfl) (fr_abs T) boot_abs (pa_cons (pv 4) pa_nil)) (pe_op G.op_powG pe_int pe_int))) (pe_callTy G.call_intG (by rfl) (fr_int T) boot_int (pa_cons (pe_cmpR G.op_ltG (pv 4) pe_int (nomark _)) pa_nil))))
    (pss_cons (ps_asg (pe_op G.op_divG (pe_callTy G.call_intG (by rfl) (fr_int T) boot_int (pa_cons (pv 5) pa_nil)) (pv 1)) (pg_sub (pv 0) pe_int set_list))
    (pss_one (ps_ret (pe_op G.op_modG (pe_callTy G.call_intG (by rfl) (fr_int T) boot_int (pa_cons (pv 5) pa_nil)) (pv 1)))))) pss_nil)
    (pss_cons (ps_set (i := 6) sc_law_draw.nd rfl (Or.inl rfl) (pe_op G.op_modG (pe_callTy G.call_intG (by rfl) (fr_int T) boot_int (pa_cons (pe_op G.op_powG (pe_op G.op_addG (pe_op G.op_addG (pe_op G.op_modG (pe_callTy G.call_intG (by rfl) (fr_int T) boot_int (pa_cons (pv 4) pa_nil)) pe_int) (pe_op G.op_mulG pe_int (pv 3))) pe_int) pe_int) pa_nil)) pe_int))
    (pss_cons (ps_set (i := 6) sc_law_draw.nd rfl (Or.inl rfl) (pe_op G.op_modG (pe_callTy G.call_intG (by rfl) (fr_int T) boot_int (pa_cons (pe_op G.op_powG (pe_op G.op_addG (pe_op G.op_addG (pe_op G.op_mulG (pv 6) (pe_op G.op_addG (pe_op G.op_mulG pe_int (pv 3)) pe_int)) (pe_op G.op_mulG (pe_op G.op_mulG pe_int (pv 3)) (pv 3))) pe_int) pe_int) pa_nil)) pe_int))
    (pss_one (ps_ret (pe_op G.op_modG (pe_callTy G.call_intG (by rfl) (fr_int T) boot_int (pa_cons (pe_op G.op_divG (pv 6) pe_int) pa_nil)) (pv 1)))))))))))), ?_⟩
    walk_at "start"
    walk_at "gob"
    · rename_i k2 e2
      exact q _ _ k2 ⟨l, i, g / m, ns, e2, k2.lst hl nlp, nlp, i0, by omega, Int.ediv_nonneg g0 (by omega), hz⟩ (Int.emod_nonneg _ (by omega)) (Int.emod_lt_of_pos _ m0)
    · rename_i H1 m1 e1 z H2 _ k2 e2
      have hlen : (ns.map V.int).length = ns.length := List.length_map ..
      have hl2 : H2 l = some (.lst (ns.map V.int)) := by walk_at "hp"
      refine ne_empty (SqL.of hl2) (SqL.of e2) ?_
      have e3 := k2 _ _ e1
      have m3 := m1.kp_r k2
      clear m1 e1 k2 e2
      have pen : ∀ d, 0 ≤ d → d < m → Q (.int d) H2 := fun d d0 d1 => q d H2 m3 ⟨l, i + 1, g, ns, e3, hl2, nlp, by omega, by omega, g0, hz⟩ d0 d1
      have fin : ∀ y : Int, Q (.int (y % m)) H2 := fun y => pen _ (Int.emod_nonneg _ (by omega)) (Int.emod_lt_of_pos _ m0)
      have great : ∀ y : Int, 0 ≤ y → ∀ H', G.Md p H2 H' → H' p = some (.lst [.ref l, .int (i + 1), .int (y / m)]) → Q (.int (y % m)) H' := fun y y0 H' k e =>
        q _ _ (m3.trans k) ⟨l, i + 1, y / m, ns, e, k.lst hl2 nlp, nlp, by omega, by omega, Int.ediv_nonneg y0 (by omega), hz⟩ (Int.emod_nonneg _ (by omega)) (Int.emod_lt_of_pos _ m0)
      clear q
      have ilt : i ≤ 1000000 := by omega
      by_cases hns : ns = []
      · have hpos : (ns.map V.int).length = 0 := by rw [hlen, hns]; rfl
        walk_at "gob"
        all_goals exact fin _
      · have hpos : 0 < ((ns.map V.int).length : Int) := by
          rw [hlen]
          have := List.length_pos_iff.mpr hns
          omega
        walk_at "gob"
        obtain ⟨c, hc⟩ := cell_at (ns := ns) (k := i % ((ns.map V.int).length : Int)) (Int.emod_nonneg _ (by omega)) (by rw [← hlen]; exact Int.emod_lt_of_pos _ hpos)
        refine G.ix_l (SqL.of hl2) hc ?_
        clear hc
        walk_at "gob"
        · exact great _ (by split <;> omega) _ (by assumption) (by assumption)
        all_goals exact fin _
theorem draw_p (hp : Pen H p n) (hn : n < 1000000) (m0 : 0 < m) (bm : G.Bd 8000 m) (z : ∀ d H', G.Md p H H' → Pen H' p (n + 1) → 0 ≤ d → d < m → Q (.int d) H') : sp_draw [.ref p, .int m] H Q E := ⟨p, m, n, rfl, hp, hn, m0, bm, z⟩
end
end Lw

local macro_rules | `(tactic| walk_at "hp") => `(tactic| (refine Lw.Pen.kp (by assumption) ?_; walk_at "hp"))
local macro_rules | `(tactic| walk_at "gx") => `(tactic| ((with_reducible refine Lw.draw_p (n := ?z0) ?h1 ?h2 ?h3 (by walk_at "bdw") ?_); (case h1 => walk_at "hp"); (case h2 => omega); (case h3 => omega); intro _ _ _ _ _ _))

namespace Lw
open PySem PySem.Spec PyProof.Rows L2
section
variable {P : Program} {w : World} {K : PySem.W.Frag} {mg : Str → Option Value} {base : Heap} {H H' : Hp} {Q : VK} {E : XK} {p q l r x : Addr} {a b c d t m : Int} {v y : V} {n n' : Nat} {xs : List V}
/-- one of the values of a list -/
def sp_pick : Sp := fun vs H Q _ => ∃ p l n xs, vs = [.ref p, .ref l] ∧ Pen H p n ∧ n < 1000000 ∧ H l = some (.lst xs) ∧ l ≠ p ∧ xs ≠ [] ∧ xs.length ≤ 1000 ∧ ∀ v H', v ∈ xs → G.Md p H H' → Pen H' p (n + 1) → Q v H'
theorem atI_mem {xs : List V} {k : Int} (h0 : 0 ≤ k) (h1 : k < (xs.length : Int)) : ∃ v, v ∈ xs ∧ atI xs k = some v := by
  obtain ⟨j, rfl⟩ := Int.eq_ofNat_of_zero_le h0
  have hj : j < xs.length := by omega
  exact ⟨xs[j], List.getElem_mem hj, atI_nat (by simp [hj])⟩
theorem ok_law_pick (T : Tx K mg) : FnOk P w K mg base CX0 2 (a_law_pick K) (G.fdOf K (a_law_pick K)) ["_law_pen_here", "_law_some"] sp_pick := by
  refine G.ok_of (F_law_pick T) sc_law_pick (fun vs H Q E h => ?_) (fun cdv A outer s H vs Q E hr h => ?_)
  · obtain ⟨p, l, n, xs, rfl, _⟩ := h
    rfl
  · obtain ⟨p, l, n, xs, rfl, hp, hn, hl, nlp, ne, lz, q⟩ := h
    have l0 : 0 < xs.length := List.length_pos_iff.mpr ne
    have bz : G.Bd 8000 (xs.length : Int) := (G.Bd.of_le (G.Bd.lit 1000) (by omega)).mono (by decide +kernel)
    refine ⟨_, (pss_one (ps_ret (pe_ix ix_seq (pv 1) (pe_call (ok_law_draw T) (hr.mono (by first | decide | omega)) rfl (gl_law_draw T) (F_law_draw T).kp (bi_law_draw T) .nil pass0 (pa_cons (pv 0) (pa_cons (pe_callB G.call_lenG (by rfl) (fr_len T) PySem.boot_len (pa_cons (pv 1) pa_nil)) pa_nil))) (fun _ _ => rfl)))), ?_⟩
    walk_at "start"
    walk_at "go"
    rename_i d H1 k1 p1 d0 d1
    obtain ⟨v, hv, hat⟩ := atI_mem d0 d1
    refine G.ix_l (SqL.of (k1.lst hl nlp)) hat ?_
    exact q v H1 hv k1 p1
theorem pick_p (hp : Pen H p n) (hn : n < 1000000) (hl : H l = some (.lst xs)) (nlp : l ≠ p) (ne : xs ≠ []) (lz : xs.length ≤ 1000) (z : ∀ v H', v ∈ xs → G.Md p H H' → Pen H' p (n + 1) → Q v H') : sp_pick [.ref p, .ref l] H Q E := ⟨p, l, n, xs, rfl, hp, hn, hl, nlp, ne, lz, z⟩
/-- the ends of a piece -/
structure Ends4 (a b c d : Int) (z : Int) : Prop where
  nb : b * c - a * d = 1
  h0 : 0 ≤ a
  h1 : a < b
  h2 : 0 < c
  h3 : c ≤ d
  sz : b + d ≤ z
theorem Ends4.left (h : Ends4 a b c d m) : Ends4 a b (a + c) (b + d) (2 * m) := ⟨by have := h.nb; rw [Int.mul_add, Int.mul_add, Int.mul_comm b a]; omega, h.h0, h.h1, by have := h.h0; have := h.h2; omega, by have := h.h1; have := h.h3; omega, by have := h.sz; have := h.h0; have := h.h1; have := h.h2; have := h.h3; omega⟩
theorem Ends4.right (h : Ends4 a b c d m) : Ends4 (a + c) (b + d) c d (2 * m) := ⟨by have := h.nb; rw [Int.add_mul, Int.add_mul, Int.mul_comm d c]; omega, by have := h.h0; have := h.h2; omega, by have := h.h0; have := h.h1; have := h.h3; have := h.h2; have := h.nb; omega, h.h2, h.h3, by have := h.sz; have := h.h0; have := h.h1; have := h.h2; have := h.h3; omega⟩
theorem Ends4.mono (h : Ends4 a b c d m) (l : m ≤ t) : Ends4 a b c d t := ⟨h.nb, h.h0, h.h1, h.h2, h.h3, by have := h.sz; omega⟩
theorem Ends4.g1 (h : Ends4 a b c d m) : Int.gcd a b = 1 := by
  have e := h.nb
  have h1 : ((Int.gcd a b : Nat) : Int) ∣ b * c - a * d := Int.dvd_sub (Int.dvd_trans (Int.gcd_dvd_right a b) (Int.dvd_mul_right _ _)) (Int.dvd_trans (Int.gcd_dvd_left a b) (Int.dvd_mul_right _ _))
  rw [e] at h1
  have := Int.le_of_dvd (by decide) h1
  have : Int.gcd a b ≠ 0 := fun z => by
    rw [z] at h1
    simp at h1
  omega
theorem Ends4.g2 (h : Ends4 a b c d m) : Int.gcd c d = 1 := by
  have e := h.nb
  have h1 : ((Int.gcd c d : Nat) : Int) ∣ b * c - a * d := Int.dvd_sub (Int.dvd_trans (Int.gcd_dvd_left c d) (Int.dvd_mul_left _ _)) (Int.dvd_trans (Int.gcd_dvd_right c d) (Int.dvd_mul_left _ _))
  rw [e] at h1
  have := Int.le_of_dvd (by decide) h1
  have : Int.gcd c d ≠ 0 := fun z => by
    rw [z] at h1
    simp at h1
  omega
def sp_walk : Sp := fun vs H Q _ => ∃ p n, vs = [.ref p, .int 6] ∧ Pen H p n ∧ n < 900000 ∧ ∀ x H' a b c d, G.Md p H H' → Pen H' p (n + 7) → H' x = some (.tup [.int a, .int b, .int c, .int d]) → Ends4 a b c d 128 → Q (.ref x) H'
end
end Lw

local macro_rules | `(tactic| walk_at "gx") => `(tactic| ((with_reducible refine Lw.pick_p (n := ?z0) (xs := ?z1) ?h1 ?h2 ?h3 ?h4 ?h5 ?h6 ?_); (case h1 => walk_at "hp"); (case h2 => omega); (case h3 => walk_at "hp"); (case h4 => first | assumption | (apply Ne.symm; assumption)); (case h5 => (intro hz; cases hz)); (case h6 => (simp only [List.length_cons, List.length_nil]; omega)); intro _ _ _ _ _))

namespace Lw
open PySem PySem.Spec PyProof.Rows L2
section
variable {P : Program} {w : World} {K : PySem.W.Frag} {mg : Str → Option Value} {base : Heap} {H H' : Hp} {Q : VK} {E : XK} {p q l r x : Addr} {a b c d t m : Int} {v y : V} {n n' : Nat} {xs : List V}
theorem ok_law_walk (T : Tx K mg) : FnOk P w K mg base CX0 2 (a_law_walk K) (G.fdOf K (a_law_walk K)) ["_law_pen_here", "_law_most"] sp_walk := by
  refine G.ok_of (F_law_walk T) sc_law_walk (fun vs H Q E h => ?_) (fun cdv A outer s H vs Q E hr h => ?_)
  · obtain ⟨p, n, rfl, _⟩ := h
    rfl
  · obtain ⟨p, n, rfl, hp, hn, q⟩ := h
    obtain ⟨ys, hys⟩ := hp.is
    refine ⟨_, (pss_cons (ps_asg (pe_tup (pa_cons pe_int (pa_cons pe_int (pa_cons pe_int (pa_cons pe_int pa_nil))))) (pg_tup (n := 4) (by rfl) (pgs_cons (pg_name (i := 2) sc_law_walk.nd rfl (Or.inl rfl)) (pgs_cons (pg_name (i := 3) sc_law_walk.nd rfl (Or.inl rfl)) (pgs_cons (pg_name (i := 4) sc_law_walk.nd rfl (Or.inl rfl)) (pgs_cons (pg_name (i := 5) sc_law_walk.nd rfl (Or.inl rfl)) pgs_nil))))))
    (pss_cons (ps_for PassesOwn.never rfl (pi_range1 rfl (fr_range T) (pa_cons (pe_call (ok_law_draw T) (hr.mono (by first | decide | omega)) rfl (gl_law_draw T) (F_law_draw T).kp (bi_law_draw T) .nil pass0 (pa_cons (pv 0) (pa_cons (pe_op G.op_addG (pv 1) pe_int) pa_nil))) pa_nil)) (pg_name (i := 6) sc_law_walk.nd rfl (Or.inl rfl)) (pss_one (ps_if (pt_cmpR (G.op_eqG hr.units) (pe_call (ok_law_draw T) (hr.mono (by first | decide | omega)) rfl (gl_law_draw T) (F_law_draw T).kp (bi_law_draw T) .nil pass0 (pa_cons (pv 0) (pa_cons pe_int pa_nil))) pe_int (nomark _)) (pss_one (ps_par (i := 4) (j := 5) (by rfl) sc_law_walk.nd rfl rfl (by decide) rfl rfl (pa_cons (pe_op G.op_addG (pv 2) (pv 4)) (pa_cons (pe_op G.op_addG (pv 3) (pv 5)) pa_nil)) (by rfl))) (pss_one (ps_par (i := 2) (j := 3) (by rfl) sc_law_walk.nd rfl rfl (by decide) rfl rfl (pa_cons (pe_op G.op_addG (pv 2) (pv 4)) (pa_cons (pe_op G.op_addG (pv 3) (pv 5)) pa_nil)) (by rfl))))))
    (pss_one (ps_ret (pe_tup (pa_cons (pv 2) (pa_cons (pv 3) (pa_cons (pv 4) (pa_cons (pv 5) pa_nil))))))))), ?_⟩
    walk_at "start"
    walk_at "go"
    rename_i z H1 _ k1 _ dr H2 m2 p2 d0 d6
    have m2' : G.Md p H H2 := (G.Md.of_kp hys k1).trans m2
    refine G.for_rng (fun i σ H' => ∃ a b c d v, σ = [some (.ref p), some (.int 6), some (.int a), some (.int b), some (.int c), some (.int d), v] ∧ G.Md p H H' ∧ Pen H' p (n + 1 + i) ∧ Ends4 a b c d (2 * 2 ^ i)) ⟨_, _, _, _, _, rfl, m2', p2, ⟨by decide, by decide, by decide, by decide, by decide, by decide⟩⟩ ?_ ?_
    · rintro i σ H3 hi ⟨a, b, c, d, v, rfl, m3, p3, e3⟩
      have e4 : (2 : Int) ^ (i + 1) = 2 * 2 ^ i := by rw [Int.pow_succ, Int.mul_comm]
      walk_at "gob"
      · rename_i H5 m5 p5 _ _ _
        exact ⟨_, _, _, _, _, rfl, m3.trans m5, p5.mono (by omega), e3.left.mono (by omega)⟩
      · rename_i H5 m5 p5 _ _ _
        exact ⟨_, _, _, _, _, rfl, m3.trans m5, p5.mono (by omega), e3.right.mono (by omega)⟩
    · rintro σ H3 ⟨a, b, c, d, v, rfl, m3, p3, e3⟩
      walk_at "gob"
      rename_i x H4 _ k4 e4
      have i6 : dr.toNat ≤ 6 := by omega
      have e5 : (2 : Int) ^ dr.toNat ≤ 2 ^ 6 := by
        have := Nat.pow_le_pow_right (n := 2) (by decide) i6
        exact_mod_cast this
      exact q x H4 a b c d (m3.kp_r k4) ((p3.mono (by omega)).kp k4) e4 (e3.mono (by omega))
/-- a tuple of the four ends -/
theorem walk_p (hp : Pen H p n) (hn : n < 900000) (z : ∀ x H' a b c d, G.Md p H H' → Pen H' p (n + 7) → H' x = some (.tup [.int a, .int b, .int c, .int d]) → Ends4 a b c d 128 → Q (.ref x) H') : sp_walk [.ref p, .int 6] H Q E := ⟨p, n, rfl, hp, hn, z⟩
/-- the piece with these ends -/
def sp_piece (K : PySem.W.Frag) : Sp := fun vs H Q _ => ∃ e a b c d z, vs = [.ref e] ∧ H e = some (.tup [.int a, .int b, .int c, .int d]) ∧ Ends4 a b c d z ∧ z ≤ 1000000 ∧ ∀ x l r H', H x = none → G.Kp H H' → IsP K H' x l r a b c d → Q (.ref x) H'
theorem ok_law_piece (T : Tx K mg) : FnOk P w K mg base CX0 7 (a_law_piece K) (G.fdOf K (a_law_piece K)) ["_law_ends"] (sp_piece K) := by
  refine G.ok_of (F_law_piece T) sc_law_piece (fun vs H Q E h => ?_) (fun cdv A outer s H vs Q E hr h => ?_)
  · obtain ⟨e, a, b, c, d, z, rfl, _⟩ := h
    rfl
  · obtain ⟨e, a, b, c, d, z, rfl, he, h4, hz, q⟩ := h
    obtain ⟨nb, h0, h1, h2, h3, sz⟩ := id h4
    have g1 := h4.g1
    have g2 := h4.g2
    have b1 : G.Bd 4000 a := (G.Bd.of_le (G.Bd.lit 1000000) (by omega)).mono (by decide +kernel)
    have b2 : G.Bd 4000 b := (G.Bd.of_le (G.Bd.lit 1000000) (by omega)).mono (by decide +kernel)
    have b3 : G.Bd 4000 c := (G.Bd.of_le (G.Bd.lit 1000000) (by omega)).mono (by decide +kernel)
    have b4 : G.Bd 4000 d := (G.Bd.of_le (G.Bd.lit 1000000) (by omega)).mono (by decide +kernel)
    refine ⟨_, (pss_one (ps_ret (pe_make (mk_Piece T) (ok_Piece_init T) (hr.mono (by first | decide | omega)) rfl (gl_Piece T) (bi_Piece_init T) .nil pass0 (pa_cons (pe_make (mk_Ratio T) (ok_Ratio_init T) (hr.mono (by first | decide | omega)) rfl (gl_Ratio T) (bi_Ratio_init T) .nil pass0 (pa_cons (pe_ix ix_seq (pv 0) pe_int (fun _ _ => rfl)) (pa_cons (pe_ix ix_seq (pv 0) pe_int (fun _ _ => rfl)) pa_nil))) (pa_cons (pe_make (mk_Ratio T) (ok_Ratio_init T) (hr.mono (by first | decide | omega)) rfl (gl_Ratio T) (bi_Ratio_init T) .nil pass0 (pa_cons (pe_ix ix_seq (pv 0) pe_int (fun _ _ => rfl)) (pa_cons (pe_ix ix_seq (pv 0) pe_int (fun _ _ => rfl)) pa_nil))) pa_nil))))), ?_⟩
    walk_at "start"
    walk_at "go"
    rename_i x H4 l r n4 k4 ip
    exact q x l r H4 (by walk_at "fr") (by walk_at "kp") ip
end
end Lw

namespace Lw
open PySem PySem.Spec PyProof.Rows L2
section
variable {P : Program} {w : World} {K : PySem.W.Frag} {mg : Str → Option Value} {base : Heap} {H H' : Hp} {Q : VK} {E : XK} {p q l r x e : Addr} {a b c d t m i j : Int} {v y : V} {n n' : Nat} {xs : List V}
theorem piece_e {z : Int} (he : H e = some (.tup [.int a, .int b, .int c, .int d])) (h4 : Ends4 a b c d z) (hz : z ≤ 1000000) (k : ∀ x l r H', H x = none → G.Kp H H' → IsP K H' x l r a b c d → Q (.ref x) H') : sp_piece K [.ref e] H Q E := ⟨e, a, b, c, d, z, rfl, he, h4, hz, k⟩
/-! the law's own divisor, neighbours -/
def sp_common : Sp := fun vs H Q _ => ∃ i j, vs = [.int i, .int j] ∧ Q (.int ((Int.gcd i j : Nat) : Int)) H
theorem ok_law_common (T : Tx K mg) : FnOk P w K mg base CX0 1 (a_law_common K) (G.fdOf K (a_law_common K)) ["_law_one", "_law_other"] sp_common := by
  refine G.ok_of (F_law_common T) sc_law_common (fun vs H Q E h => ?_) (fun cdv A outer s H vs Q E hr h => ?_)
  · obtain ⟨i, j, rfl, _⟩ := h
    rfl
  · obtain ⟨i, j, rfl, q⟩ := h
    refine ⟨_, (pss_cons (ps_par (i := 0) (j := 1) (by rfl) sc_law_common.nd rfl rfl (by decide) rfl rfl (pa_cons (pe_callB G.call_absG (by rfl) (fr_abs T) boot_abs (pa_cons (pv 0) pa_nil)) (pa_cons (pe_callB G.call_absG (by rfl) (fr_abs T) boot_abs (pa_cons (pv 1) pa_nil)) pa_nil)) (by rfl))
    (pss_cons (ps_while PassesOwn.never (pt_cmpR (G.op_neG hr.units) (pv 1) pe_int (nomark _)) (pss_one (ps_par (i := 0) (j := 1) (by rfl) sc_law_common.nd rfl rfl (by decide) rfl rfl (pa_cons (pv 1) (pa_cons (pe_op G.op_modG (pe_callTy G.call_intG (by rfl) (fr_int T) boot_int (pa_cons (pv 0) pa_nil)) (pv 1)) pa_nil)) (by rfl))))
    (pss_one (ps_ret (pv 0))))), ?_⟩
    walk_at "start"
    walk_at "go"
    refine G.st_while (fun m σ H' => H' = H ∧ ∃ a : Nat, σ = [some (.int (a : Int)), some (.int (m : Int))] ∧ Nat.gcd a m = Int.gcd i j) j.natAbs ⟨rfl, _, rfl, rfl⟩ ?_
    rintro m σ H' ⟨rfl, a, rfl, e⟩
    walk_at "gob"
    · refine ⟨a % m, Nat.mod_lt _ (by omega), rfl, m, by simp, ?_⟩
      rw [← e, Nat.gcd_comm a m, Nat.gcd_rec m a, Nat.gcd_comm]
    · rename_i hc
      have : m = 0 := by omega
      subst this
      rw [← e, Nat.gcd_zero_right] at q
      exact q
theorem common_i (q : Q (.int ((Int.gcd i j : Nat) : Int)) H) : sp_common [.int i, .int j] H Q E := ⟨i, j, rfl, q⟩
/-- two fractions, as tuples -/
def sp_beside (K : PySem.W.Frag) : Sp := fun vs H Q _ => ∃ o p a b c d, vs = [.ref o, .ref p] ∧ SqT K H o [.int a, .int b] ∧ SqT K H p [.int c, .int d] ∧ G.Bd 4000 a ∧ G.Bd 4000 b ∧ G.Bd 4000 c ∧ G.Bd 4000 d ∧ Q (.bl (decide (b * c - a * d = 1))) H
theorem ok_law_is_beside (T : Tx K mg) : FnOk P w K mg base CX0 1 (a_law_is_beside K) (G.fdOf K (a_law_is_beside K)) ["_law_one", "_law_other"] (sp_beside K) := by
  refine G.ok_of (F_law_is_beside T) sc_law_is_beside (fun vs H Q E h => ?_) (fun cdv A outer s H vs Q E hr h => ?_)
  · obtain ⟨o, p, a, b, c, d, rfl, _⟩ := h
    rfl
  · obtain ⟨o, p, a, b, c, d, rfl, h1, h2, b1, b2, b3, b4, q⟩ := h
    refine ⟨_, (pss_one (ps_ret (pe_cmpR (G.op_eqG hr.units) (pe_op G.op_subG (pe_op G.op_mulG (pe_ix ix_seq (pv 0) pe_int (fun _ _ => rfl)) (pe_ix ix_seq (pv 1) pe_int (fun _ _ => rfl))) (pe_op G.op_mulG (pe_ix ix_seq (pv 0) pe_int (fun _ _ => rfl)) (pe_ix ix_seq (pv 1) pe_int (fun _ _ => rfl)))) pe_int (nomark _)))), ?_⟩
    walk_at "start"
    walk_at "go"
    exact q
theorem beside_t {o : Addr} (h1 : SqT K H o [.int a, .int b]) (h2 : SqT K H p [.int c, .int d]) (b1 : G.Bd 4000 a) (b2 : G.Bd 4000 b) (b3 : G.Bd 4000 c) (b4 : G.Bd 4000 d) (q : Q (.bl (decide (b * c - a * d = 1))) H) : sp_beside K [.ref o, .ref p] H Q E := ⟨o, p, a, b, c, d, rfl, h1, h2, b1, b2, b3, b4, q⟩
/-- t / n lies in the piece -/
structure InP (a b c d t n : Int) : Prop where
  h1 : a * n < t * b
  h2 : t * d < c * n
  cop : Int.gcd t n = 1
  pos : 0 < n
  bt : G.Bd 400 t
  bn : G.Bd 400 n
/-! the mathematics of the spot -/
theorem spot_eq (nb : b * c - a * d = 1) (t n : Int) : t = (c * n - d * t) * a + (b * t - a * n) * c ∧ n = (c * n - d * t) * b + (b * t - a * n) * d := by
  constructor
  · have : (c * n - d * t) * a + (b * t - a * n) * c = t * (b * c - a * d) := by
      simp only [Int.sub_mul, Int.mul_sub]
      have e1 : c * n * a = a * n * c := by rw [Int.mul_comm c n, Int.mul_assoc, Int.mul_comm c a, ← Int.mul_assoc, Int.mul_comm n a]
      have e2 : d * t * a = t * (a * d) := by rw [Int.mul_comm d t, Int.mul_assoc, Int.mul_comm d a]
      have e3 : b * t * c = t * (b * c) := by rw [Int.mul_comm b t, Int.mul_assoc]
      omega
    rw [this, nb, Int.mul_one]
  · have : (c * n - d * t) * b + (b * t - a * n) * d = n * (b * c - a * d) := by
      simp only [Int.sub_mul, Int.mul_sub]
      have e1 : c * n * b = n * (b * c) := by rw [Int.mul_comm c n, Int.mul_assoc, Int.mul_comm c b]
      have e2 : d * t * b = b * t * d := by rw [Int.mul_comm d t, Int.mul_assoc, Int.mul_comm d b, ← Int.mul_assoc, Int.mul_comm t b]
      have e3 : a * n * d = n * (a * d) := by rw [Int.mul_comm a n, Int.mul_assoc]
      omega
    rw [this, nb, Int.mul_one]
theorem mid_iff (nb : b * c - a * d = 1) (t n : Int) : (t = a + c ∧ n = b + d) ↔ (c * n - d * t = 1 ∧ b * t - a * n = 1) := by
  constructor
  · rintro ⟨rfl, rfl⟩
    simp only [Int.mul_add]
    have e1 : c * b = b * c := Int.mul_comm _ _
    have e2 : d * a = a * d := Int.mul_comm _ _
    have e3 : c * d = d * c := Int.mul_comm _ _
    have e4 : b * a = a * b := Int.mul_comm _ _
    omega
  · rintro ⟨h1, h2⟩
    obtain ⟨e1, e2⟩ := spot_eq nb t n
    rw [h1, h2] at e1 e2
    omega
theorem left_iff (a b c d t n : Int) : t * (b + d) < (a + c) * n ↔ b * t - a * n < c * n - d * t := by
  simp only [Int.mul_add, Int.add_mul]
  have e1 : t * b = b * t := Int.mul_comm _ _
  have e2 : t * d = d * t := Int.mul_comm _ _
  omega
theorem spot_left (a b c d t n : Int) : (a + c) * n - (b + d) * t = (c * n - d * t) - (b * t - a * n) := by
  simp only [Int.add_mul]
  omega
theorem spot_right (a b c d t n : Int) : (b + d) * t - (a + c) * n = (b * t - a * n) - (c * n - d * t) := by
  simp only [Int.add_mul]
  omega
theorem InP.hu (h : InP a b c d t m) : 1 ≤ c * m - d * t := by have := h.h2; have := Int.mul_comm t d; omega
theorem InP.hv (h : InP a b c d t m) : 1 ≤ b * t - a * m := by have := h.h1; have := Int.mul_comm t b; omega
theorem InP.left (h : InP a b c d t m) (l : b * t - a * m < c * m - d * t) : InP a b (a + c) (b + d) t m := ⟨h.h1, (left_iff a b c d t m).mpr l, h.cop, h.pos, h.bt, h.bn⟩
theorem InP.right (h : InP a b c d t m) (l : c * m - d * t < b * t - a * m) : InP (a + c) (b + d) c d t m := ⟨by
  simp only [Int.mul_add, Int.add_mul]
  have e1 : t * b = b * t := Int.mul_comm _ _
  have e2 : t * d = d * t := Int.mul_comm _ _
  omega, h.h2, h.cop, h.pos, h.bt, h.bn⟩
/-- a spot on the diagonal is the middle's -/
theorem InP.diag (nb : b * c - a * d = 1) (h : InP a b c d t m) (e : b * t - a * m = c * m - d * t) : c * m - d * t = 1 ∧ b * t - a * m = 1 := by
  obtain ⟨e1, e2⟩ := spot_eq nb t m
  rw [e] at e1 e2
  have u0 := h.hu
  have d1 : (c * m - d * t) ∣ t := ⟨a + c, by rw [Int.mul_add]; exact e1⟩
  have d2 : (c * m - d * t) ∣ m := ⟨b + d, by rw [Int.mul_add]; exact e2⟩
  have d3 := Int.dvd_coe_gcd d1 d2
  rw [h.cop] at d3
  have := Int.le_of_dvd (by decide) d3
  have : c * m - d * t = 1 := by omega
  omega
theorem sl4a (h : H e = some (.tup [.int a, .int b, .int c, .int d])) (z : ∀ p H', H p = none → G.Kp H H' → H' p = some (.tup [.int a, .int b]) → Q (.ref p) H') : G.rSlG K (.ref e) none (some 2) H Q := G.sl_t (SqT.of h) (by show ¬ (HT.sIx 4 0 none = 0 ∧ HT.sIx 4 4 (some 2) = 4); decide) z
theorem sl4b (h : H e = some (.tup [.int a, .int b, .int c, .int d])) (z : ∀ p H', H p = none → G.Kp H H' → H' p = some (.tup [.int c, .int d]) → Q (.ref p) H') : G.rSlG K (.ref e) (some 2) none H Q := G.sl_t (SqT.of h) (by show ¬ (HT.sIx 4 0 (some 2) = 0 ∧ HT.sIx 4 4 none = 4); decide) z
/-- the kind, by the ends; the spot is not the middle's -/
def sp_near (K : PySem.W.Frag) : Sp := fun vs H Q _ => ∃ e a b c d z t m, vs = [.ref e, .int t, .int m] ∧ H e = some (.tup [.int a, .int b, .int c, .int d]) ∧ Ends4 a b c d z ∧ z ≤ 1000000 ∧ InP a b c d t m ∧ ¬ (c * m - d * t = 1 ∧ b * t - a * m = 1) ∧
  ∀ H', G.Kp H H' → Q (.str (kindS (c * m - d * t) (b * t - a * m))) H'
end
end Lw

local macro_rules | `(tactic| walk_at "gx") => `(tactic| first
  | ((with_reducible refine Lw.walk_p (n := ?z0) ?h1 ?h2 ?_); (case h1 => walk_at "hp"); (case h2 => omega); intro _ _ _ _ _ _ _ _ _ _)
  | ((with_reducible refine Lw.piece_e (a := ?z0) (b := ?z1) (c := ?z2) (d := ?z3) (z := ?z4) ?h1 ?h2 ?h3 ?_); (case h1 => walk_at "hp"); (case h2 => assumption); (case h3 => omega); intro _ _ _ _ _ _ _)
  | with_reducible refine Lw.common_i ?_
  | ((with_reducible refine Lw.beside_t (a := ?z0) (b := ?z1) (c := ?z2) (d := ?z3) ?h1 ?h2 ?b1 ?b2 ?b3 ?b4 ?_); (case h1 => walk_at "hp"); (case h2 => walk_at "hp"); (case b1 => walk_at "bdw"); (case b2 => walk_at "bdw"); (case b3 => walk_at "bdw"); (case b4 => walk_at "bdw"))
  | ((with_reducible refine Lw.sl4a (a := ?z0) (b := ?z1) (c := ?z2) (d := ?z3) ?h ?_); (case h => walk_at "hp"); intro _ _ _ _ _)
  | ((with_reducible refine Lw.sl4b (a := ?z0) (b := ?z1) (c := ?z2) (d := ?z3) ?h ?_); (case h => walk_at "hp"); intro _ _ _ _ _))

namespace Lw
open PySem PySem.Spec PyProof.Rows L2
section
variable {P : Program} {w : World} {K : PySem.W.Frag} {mg : Str → Option Value} {base : Heap} {H H' : Hp} {Q : VK} {E : XK} {p q l r x e : Addr} {a b c d t m i j : Int} {v y : V} {n n' : Nat} {xs : List V}
theorem ok_law_near_kind (T : Tx K mg) : FnOk P w K mg base CX0 2 (a_law_near_kind K) (G.fdOf K (a_law_near_kind K)) ["_law_ends", "_law_top", "_law_bottom"] (sp_near K) := by
  refine G.ok_of (F_law_near_kind T) sc_law_near_kind (fun vs H Q E h => ?_) (fun cdv A outer s H vs Q E hr h => ?_)
  · obtain ⟨e, a, b, c, d, z, t, m, rfl, _⟩ := h
    rfl
  · obtain ⟨e, a, b, c, d, z, t, m, rfl, he, h4, hz, ip, nm, q⟩ := h
    obtain ⟨nb, h0, h1, h2, h3, sz⟩ := id h4
    have b1 : G.Bd 4000 a := (G.Bd.of_le (G.Bd.lit 1000000) (by omega)).mono (by decide +kernel)
    have b2 : G.Bd 4000 b := (G.Bd.of_le (G.Bd.lit 1000000) (by omega)).mono (by decide +kernel)
    have b3 : G.Bd 4000 c := (G.Bd.of_le (G.Bd.lit 1000000) (by omega)).mono (by decide +kernel)
    have b4 : G.Bd 4000 d := (G.Bd.of_le (G.Bd.lit 1000000) (by omega)).mono (by decide +kernel)
    have b5 := ip.bt
    have b6 := ip.bn
    refine ⟨_, (pss_cons (ps_if (pt_val (pe_call (ok_law_is_beside T) (hr.mono (by first | decide | omega)) rfl (gl_law_is_beside T) (F_law_is_beside T).kp (bi_law_is_beside T) .nil pass0 (pa_cons (pe_slice G.sl_G (pv 0) po_none (po_some pe_int)) (pa_cons (pe_tup (pa_cons (pv 1) (pa_cons (pv 2) pa_nil))) pa_nil)))) (pss_one (ps_ret pe_str)) pss_nil)
    (pss_one (ps_ret (pe_ifExp (pt_val (pe_call (ok_law_is_beside T) (hr.mono (by first | decide | omega)) rfl (gl_law_is_beside T) (F_law_is_beside T).kp (bi_law_is_beside T) .nil pass0 (pa_cons (pe_tup (pa_cons (pv 1) (pa_cons (pv 2) pa_nil))) (pa_cons (pe_slice G.sl_G (pv 0) (po_some pe_int) po_none) pa_nil)))) pe_str pe_str)))), ?_⟩
    walk_at "start"
    walk_at "gob"
    · rename_i hv
      have hu : ¬ (c * m - d * t = 1) := fun y => nm ⟨y, hv⟩
      have hS : kindS (c * m - d * t) (b * t - a * m) = "left" := by rw [kindS, if_pos hv, if_neg hu]
      rw [← hS]
      exact q _ (by walk_at "kp")
    · rename_i hv _ _ _ _ _ _ _ _ _ _ hu
      have hu' : c * m - d * t = 1 := by rw [Int.mul_comm c m, Int.mul_comm d t]; exact hu
      have hS : kindS (c * m - d * t) (b * t - a * m) = "right" := by rw [kindS, if_neg hv, if_pos hu']
      rw [← hS]
      exact q _ (by walk_at "kp")
    · rename_i hv _ _ _ _ _ _ _ _ _ _ hu
      have hu' : ¬ (c * m - d * t = 1) := by rw [Int.mul_comm c m, Int.mul_comm d t]; exact hu
      have hS : kindS (c * m - d * t) (b * t - a * m) = "other" := by rw [kindS, if_neg hv, if_neg hu']
      rw [← hS]
      exact q _ (by walk_at "kp")
theorem near_e {z : Int} (he : H e = some (.tup [.int a, .int b, .int c, .int d])) (h4 : Ends4 a b c d z) (hz : z ≤ 1000000) (ip : InP a b c d t m) (nm : ¬ (c * m - d * t = 1 ∧ b * t - a * m = 1)) (k : ∀ H', G.Kp H H' → Q (.str (kindS (c * m - d * t) (b * t - a * m))) H') :
    sp_near K [.ref e, .int t, .int m] H Q E := ⟨e, a, b, c, d, z, t, m, rfl, he, h4, hz, ip, nm, k⟩
/-- the kind, by the law's own walk: fewer than N halves deep -/
def sp_lkind (N : Nat) : Sp := fun vs H Q _ => ∃ e a b c d z t m g, vs = [.ref e, .int t, .int m, .int g] ∧ H e = some (.tup [.int a, .int b, .int c, .int d]) ∧ Ends4 a b c d z ∧ z * 2 ^ N ≤ 2000000 ∧ InP a b c d t m ∧ 0 ≤ g ∧ g + 1 ≤ (N : Int) ∧
    ∀ H', G.Kp H H' → Q (.str (kindS (c * m - d * t) (b * t - a * m))) H'
theorem lkind_e {z g : Int} {N : Nat} (he : H e = some (.tup [.int a, .int b, .int c, .int d])) (h4 : Ends4 a b c d z) (hz : z * 2 ^ N ≤ 2000000) (ip : InP a b c d t m) (g0 : 0 ≤ g) (g1 : g + 1 ≤ (N : Int)) (k : ∀ H', G.Kp H H' → Q (.str (kindS (c * m - d * t) (b * t - a * m))) H') :
    sp_lkind N [.ref e, .int t, .int m, .int g] H Q E := ⟨e, a, b, c, d, z, t, m, g, rfl, he, h4, hz, ip, g0, g1, k⟩
end
end Lw

local macro_rules | `(tactic| walk_at "gx") => `(tactic| first
  | ((with_reducible refine Lw.near_e (a := ?z0) (b := ?z1) (c := ?z2) (d := ?z3) (z := ?z4) ?h1 ?h2 ?h3 ?h4 ?h5 ?_); (case h1 => walk_at "hp"); (case h2 => assumption); (case h3 => omega); (case h4 => assumption); (case h5 => assumption); intro _ _)
  | ((with_reducible refine Lw.lkind_e (a := ?z0) (b := ?z1) (c := ?z2) (d := ?z3) (z := ?z4) ?h1 ?h2 ?h3 ?h4 ?h5 ?h6 ?_); (case h1 => walk_at "hp"); (case h2 => assumption); (case h3 => first | assumption | omega); (case h4 => assumption); (case h5 => omega); (case h6 => omega); intro _ _))

namespace Lw
open PySem PySem.Spec PyProof.Rows L2
section
variable {P : Program} {w : World} {K : PySem.W.Frag} {mg : Str → Option Value} {base : Heap} {H H' : Hp} {Q : VK} {E : XK} {p q l r x e : Addr} {a b c d t m i j : Int} {v y : V} {n n' : Nat} {xs : List V}
theorem kindS_ml {u v : Int} : (kindS u v = "middle" ∨ kindS u v = "left") ↔ v = 1 := by
  unfold kindS
  by_cases hv : v = 1
  · by_cases hu : u = 1 <;> simp [hv, hu]
  · by_cases hu : u = 1
    · rw [if_neg hv, if_pos hu]
      exact ⟨fun z => absurd z (by decide), fun z => absurd z hv⟩
    · rw [if_neg hv, if_neg hu]
      exact ⟨fun z => absurd z (by decide), fun z => absurd z hv⟩
theorem kindS_mr {u v : Int} : (kindS u v = "middle" ∨ kindS u v = "right") ↔ u = 1 := by
  unfold kindS
  by_cases hu : u = 1
  · by_cases hv : v = 1 <;> simp [hv, hu]
  · by_cases hv : v = 1
    · rw [if_pos hv, if_neg hu]
      exact ⟨fun z => absurd z (by decide), fun z => absurd z hu⟩
    · rw [if_neg hv, if_neg hu]
      exact ⟨fun z => absurd z (by decide), fun z => absurd z hu⟩
theorem ok_law_kind (T : Tx K mg) : ∀ N : Nat, FnOk P w K mg base CX0 (N + 2) (a_law_kind K) (G.fdOf K (a_law_kind K)) ["_law_ends", "_law_top", "_law_bottom", "_law_deep"] (sp_lkind N)
  | 0 => ⟨fun _ _ _ _ h => by obtain ⟨_, _, _, _, _, _, _, _, _, _, _, _, _, _, g0, g1, _⟩ := h; exfalso; have : ((0 : Nat) : Int) = 0 := rfl; omega, fun _ _ _ _ _ _ _ _ _ _ _ _ _ h => by obtain ⟨_, _, _, _, _, _, _, _, _, _, _, _, _, _, g0, g1, _⟩ := h; exfalso; have : ((0 : Nat) : Int) = 0 := rfl; omega⟩
  | N + 1 => by
    have IH : FnOk P w K mg base CX0 (N + 2) (a_law_kind K) (G.fdOf K (a_law_kind K)) ["_law_ends", "_law_top", "_law_bottom", "_law_deep"] (sp_lkind N) := ok_law_kind T N
    refine G.ok_of (F_law_kind T) sc_law_kind (fun vs H Q E h => ?_) (fun cdv A outer s H vs Q E hr h => ?_)
    · obtain ⟨e, a, b, c, d, z, t, m, g, rfl, _⟩ := h
      rfl
    · obtain ⟨e, a, b, c, d, z, t, m, g, rfl, he, h4, hz, ip, g0, gN, q⟩ := h
      have two : (0 : Int) < 2 ^ N := Int.pow_pos (by decide)
      obtain ⟨nb, h0, h1, h2, h3, sz⟩ := id h4
      have hz2 : (2 * z) * 2 ^ N ≤ 2000000 := by rw [Int.pow_succ] at hz; rw [Int.mul_comm 2 z, Int.mul_assoc, Int.mul_comm 2]; exact hz
      have z1 : z ≤ 1000000 := by
        have := Int.mul_le_mul_of_nonneg_left (show (1 : Int) ≤ 2 ^ N by omega) (show 0 ≤ 2 * z by omega)
        omega
      have b1 : G.Bd 4000 a := (G.Bd.of_le (G.Bd.lit 1000000) (by omega)).mono (by decide +kernel)
      have b2 : G.Bd 4000 b := (G.Bd.of_le (G.Bd.lit 1000000) (by omega)).mono (by decide +kernel)
      have b3 : G.Bd 4000 c := (G.Bd.of_le (G.Bd.lit 1000000) (by omega)).mono (by decide +kernel)
      have b4 : G.Bd 4000 d := (G.Bd.of_le (G.Bd.lit 1000000) (by omega)).mono (by decide +kernel)
      have b5 := ip.bt
      have b6 := ip.bn
      have hu := ip.hu
      have hv := ip.hv
      have hmid := mid_iff nb t m
      have hleft := left_iff a b c d t m
      refine ⟨_, (pss_cons (ps_asg (pv 0) (pg_tup (n := 4) (by rfl) (pgs_cons (pg_name (i := 4) sc_law_kind.nd rfl (Or.inl rfl)) (pgs_cons (pg_name (i := 5) sc_law_kind.nd rfl (Or.inl rfl)) (pgs_cons (pg_name (i := 6) sc_law_kind.nd rfl (Or.inl rfl)) (pgs_cons (pg_name (i := 7) sc_law_kind.nd rfl (Or.inl rfl)) pgs_nil))))))
    (pss_cons (ps_set (i := 8) sc_law_kind.nd rfl (Or.inl rfl) (pe_tup (pa_cons (pe_op G.op_addG (pv 4) (pv 6)) (pa_cons (pe_op G.op_addG (pv 5) (pv 7)) pa_nil))))
    (pss_cons (ps_if (pt_cmpR (G.op_eqG hr.units) (pe_tup (pa_cons (pv 1) (pa_cons (pv 2) pa_nil))) (pv 8) (nomark _)) (pss_one (ps_ret pe_str)) pss_nil)
    (pss_cons (ps_if (pt_cmpR (G.op_eqG hr.units) (pv 3) pe_int (nomark _)) (pss_one (ps_ret (pe_call (ok_law_near_kind T) (hr.mono (by first | decide | omega)) rfl (gl_law_near_kind T) (F_law_near_kind T).kp (bi_law_near_kind T) .nil pass0 (pa_cons (pv 0) (pa_cons (pv 1) (pa_cons (pv 2) pa_nil)))))) pss_nil)
    (pss_cons (ps_set (i := 9) sc_law_kind.nd rfl (Or.inl rfl) (pe_cmpR G.op_ltG (pe_op G.op_mulG (pv 1) (pe_ix ix_seq (pv 8) pe_int (fun _ _ => rfl))) (pe_op G.op_mulG (pe_ix ix_seq (pv 8) pe_int (fun _ _ => rfl)) (pv 2)) (nomark _)))
    (pss_cons (ps_set (i := 10) sc_law_kind.nd rfl (Or.inl rfl) (pe_ifExp (pt_val (pv 9)) (pe_op G.op_addG (pe_tup (pa_cons (pv 4) (pa_cons (pv 5) pa_nil))) (pv 8)) (pe_op G.op_addG (pv 8) (pe_tup (pa_cons (pv 6) (pa_cons (pv 7) pa_nil))))))
    (pss_cons (ps_set (i := 11) sc_law_kind.nd rfl (Or.inl rfl) (pe_call IH (hr.mono (by first | decide | omega)) rfl (gl_law_kind T) (F_law_kind T).kp (bi_law_kind T) .nil pass0 (pa_cons (pv 10) (pa_cons (pv 1) (pa_cons (pv 2) (pa_cons (pe_op G.op_subG (pv 3) pe_int) pa_nil))))))
    (pss_cons (ps_if (pt_val (pv 9)) (pss_one (ps_ret (pe_ifExp (pt_cmpR op_in_seq (pv 11) (pe_tup (pa_cons pe_str (pa_cons pe_str pa_nil))) (by rfl)) pe_str pe_str))) pss_nil)
    (pss_one (ps_ret (pe_ifExp (pt_cmpR op_in_seq (pv 11) (pe_tup (pa_cons pe_str (pa_cons pe_str pa_nil))) (by rfl)) pe_str pe_str))))))))))), ?_⟩
      by_cases hm : t = a + c ∧ m = b + d
      · have hS : kindS (c * m - d * t) (b * t - a * m) = "middle" := by rw [kindS, if_pos (hmid.mp hm).2, if_pos (hmid.mp hm).1]
        rw [hS] at q
        walk_at "start"
        walk_at "gob"
        exact q _ (by walk_at "kp")
      have nm := fun x => hm (hmid.mpr x)
      by_cases hg : g = 0
      · subst hg
        walk_at "start"
        walk_at "gob"
        exact q _ (by walk_at "kp")
      by_cases hl : t * (b + d) < (a + c) * m
      · have hl' := hleft.mp hl
        have e4 := h4.left
        have ip4 := ip.left hl'
        walk_at "start"
        walk_at "gob"
        · rename_i hc
          have v1 := kindS_ml.mp hc
          have hS : kindS (c * m - d * t) (b * t - a * m) = "left" := by rw [kindS, if_pos v1, if_neg (by omega)]
          rw [← hS]
          exact q _ (by walk_at "kp")
        · rename_i hc
          have v1 := mt kindS_ml.mpr (not_or.mpr hc)
          have hS : kindS (c * m - d * t) (b * t - a * m) = "other" := by rw [kindS, if_neg v1, if_neg (by omega)]
          rw [← hS]
          exact q _ (by walk_at "kp")
      · have hr' : c * m - d * t < b * t - a * m := by
          rcases Int.lt_trichotomy (b * t - a * m) (c * m - d * t) with y | y | y
          · exact absurd (hleft.mpr y) hl
          · exact absurd (ip.diag nb y) nm
          · exact y
        have e4 := h4.right
        have ip4 := ip.right hr'
        walk_at "start"
        walk_at "gob"
        · rename_i hc
          have v1 := kindS_mr.mp hc
          have hS : kindS (c * m - d * t) (b * t - a * m) = "right" := by rw [kindS, if_neg (by omega), if_pos v1]
          rw [← hS]
          exact q _ (by walk_at "kp")
        · rename_i hc
          have v1 := mt kindS_mr.mpr (not_or.mpr hc)
          have hS : kindS (c * m - d * t) (b * t - a * m) = "other" := by rw [kindS, if_neg (by omega), if_neg v1]
          rw [← hS]
          exact q _ (by walk_at "kp")
end
end Lw

namespace Lw
open PySem PySem.Spec PyProof.Rows L2
section
variable {P : Program} {w : World} {K : PySem.W.Frag} {mg : Str → Option Value} {base : Heap} {H H' : Hp} {Q : VK} {E : XK} {p q l r x e : Addr} {a b c d t m i j g : Int} {v y : V} {n n' : Nat} {xs : List V}
/-- fractions in a piece, as tuples -/
def Sm (H : Hp) (a b c d : Int) (xs : List V) : Prop := ∀ v ∈ xs, ∃ o t m, v = .ref o ∧ H o = some (.tup [.int t, .int m]) ∧ InP a b c d t m
theorem Sm.kp (k : G.Kp H H') (h : Sm H a b c d xs) : Sm H' a b c d xs := fun v hv => let ⟨o, t, m, e, h1, h2⟩ := h v hv; ⟨o, t, m, e, k _ _ h1, h2⟩
theorem Sm.md (k : G.Md p H H') (h : Sm H a b c d xs) : Sm H' a b c d xs := fun v hv => let ⟨o, t, m, e, h1, h2⟩ := h v hv; ⟨o, t, m, e, k.tup h1, h2⟩
theorem Sm.add {o : Addr} (h : Sm H a b c d xs) (e : H o = some (.tup [.int t, .int m])) (ip : InP a b c d t m) : Sm H a b c d (xs ++ [.ref o]) := fun v hv => by
  rcases List.mem_append.mp hv with hv | hv
  · exact h v hv
  · rcases List.mem_singleton.mp hv with rfl
    exact ⟨o, t, m, rfl, e, ip⟩
theorem div_range (h0 : 0 ≤ a) (h1 : a ≤ b) (hb : 0 < b) (hm : 0 ≤ m) : 0 ≤ a * m / b ∧ a * m / b ≤ m :=
  ⟨Int.ediv_nonneg (Int.mul_nonneg h0 hm) (by omega), by
    refine Int.le_trans (Int.ediv_le_ediv hb (Int.mul_le_mul_of_nonneg_right h1 hm)) ?_
    rw [Int.mul_ediv_cancel_left m (by omega)]
    exact Int.le_refl m⟩
def sp_small : Sp := fun vs H Q _ => ∃ e a b c d g, vs = [.ref e, .int g] ∧ H e = some (.tup [.int a, .int b, .int c, .int d]) ∧ Ends4 a b c d 128 ∧ 0 ≤ g ∧ g ≤ 384 ∧
  ∀ x xs H', H x = none → G.Kp H H' → H' x = some (.lst xs) → Sm H' a b c d xs → xs.length ≤ 154400 → Q (.ref x) H'
theorem ok_law_small (T : Tx K mg) : FnOk P w K mg base CX0 2 (a_law_small K) (G.fdOf K (a_law_small K)) ["_law_ends", "_law_most"] sp_small := by
  refine G.ok_of (F_law_small T) sc_law_small (fun vs H Q E h => ?_) (fun cdv A outer s H vs Q E hr h => ?_)
  · obtain ⟨e, a, b, c, d, g, rfl, _⟩ := h
    rfl
  · obtain ⟨e, a, b, c, d, g, rfl, he, h4, g0, g1, q⟩ := h
    obtain ⟨nb, h0, h1, h2, h3, sz⟩ := id h4
    have b1 : G.Bd 4000 a := (G.Bd.of_le (G.Bd.lit 1000000) (by omega)).mono (by decide +kernel)
    have b2 : G.Bd 4000 b := (G.Bd.of_le (G.Bd.lit 1000000) (by omega)).mono (by decide +kernel)
    have b3 : G.Bd 4000 c := (G.Bd.of_le (G.Bd.lit 1000000) (by omega)).mono (by decide +kernel)
    have b4 : G.Bd 4000 d := (G.Bd.of_le (G.Bd.lit 1000000) (by omega)).mono (by decide +kernel)
    refine ⟨_, (pss_cons (ps_asg (pv 0) (pg_tup (n := 4) (by rfl) (pgs_cons (pg_name (i := 2) sc_law_small.nd rfl (Or.inl rfl)) (pgs_cons (pg_name (i := 3) sc_law_small.nd rfl (Or.inl rfl)) (pgs_cons (pg_name (i := 4) sc_law_small.nd rfl (Or.inl rfl)) (pgs_cons (pg_name (i := 5) sc_law_small.nd rfl (Or.inl rfl)) pgs_nil))))))
    (pss_cons (ps_set (i := 6) sc_law_small.nd rfl (Or.inl rfl) (pe_lst pa_nil))
    (pss_cons (ps_for PassesOwn.never rfl (pi_range2 rfl (fr_range T) (pa_cons (pe_op G.op_addG (pv 3) (pv 5)) (pa_cons (pe_op G.op_addG (pv 1) pe_int) pa_nil))) (pg_name (i := 7) sc_law_small.nd rfl (Or.inl rfl)) (pss_one (ps_for PassesOwn.never rfl (pi_range2 rfl (fr_range T) (pa_cons (pe_op G.op_divG (pe_op G.op_mulG (pv 2) (pv 7)) (pv 3)) (pa_cons (pe_op G.op_addG (pe_op G.op_divG (pe_op G.op_mulG (pv 4) (pv 7)) (pv 5)) pe_int) pa_nil))) (pg_name (i := 8) sc_law_small.nd rfl (Or.inl rfl)) (pss_one (ps_if (PW.pt (pw_and (pt_cmpR G.op_ltG (pe_op G.op_mulG (pv 2) (pv 7)) (pe_op G.op_mulG (pv 8) (pv 3)) (nomark _)) (pw_and (pt_cmpR G.op_ltG (pe_op G.op_mulG (pv 8) (pv 5)) (pe_op G.op_mulG (pv 4) (pv 7)) (nomark _)) (pw_and1 (pt_cmpR (G.op_eqG hr.units) (pe_call (ok_law_common T) (hr.mono (by first | decide | omega)) rfl (gl_law_common T) (F_law_common T).kp (bi_law_common T) .nil pass0 (pa_cons (pv 8) (pa_cons (pv 7) pa_nil))) pe_int (nomark _)))))) (pss_one (ps_expr (pe_bm PySem.F.plainAttrs_list PySem.F.slot_list_append PySem.F.type_list_append mt_append (pv 6) (pa_cons (pe_tup (pa_cons (pv 8) (pa_cons (pv 7) pa_nil))) pa_nil)))) pss_nil)))))
    (pss_one (ps_ret (pv 6)))))), ?_⟩
    walk_at "start"
    walk_at "go"
    rename_i f H1 hf k1 e1
    refine G.for_rng (fun i σ H' => ∃ v w xs, σ = [some (.ref e), some (.int g), some (.int a), some (.int b), some (.int c), some (.int d), some (.ref f), v, w] ∧ G.Kp H H' ∧ H' f = some (.lst xs) ∧ Sm H' a b c d xs ∧ xs.length ≤ 386 * i) ⟨_, _, [], rfl, k1, e1, (fun _ z => by cases z), Nat.zero_le _⟩ ?_ ?_
    · rintro i σ H3 hi ⟨v, w, xs, rfl, k3, e3, s3, l3⟩
      have hm : 0 ≤ b + d + (i : Int) := by omega
      have hm2 : b + d + (i : Int) ≤ 384 := by omega
      have bm : G.Bd 4000 (b + d + (i : Int)) := (G.Bd.of_le (G.Bd.lit 1000000) (by omega)).mono (by decide +kernel)
      obtain ⟨r1, r2⟩ := div_range h0 (show a ≤ b by omega) (show 0 < b by omega) hm
      obtain ⟨r3, r4⟩ := div_range (show 0 ≤ c by omega) h3 (show 0 < d by omega) hm
      generalize hM : b + d + (i : Int) = M at *
      walk_at "go"
      refine G.for_rng (fun j σ H' => ∃ w xs, σ = [some (.ref e), some (.int g), some (.int a), some (.int b), some (.int c), some (.int d), some (.ref f), some (.int M), w] ∧ G.Kp H H' ∧ H' f = some (.lst xs) ∧ Sm H' a b c d xs ∧ xs.length ≤ 386 * i + j) ⟨_, xs, rfl, k3, e3, s3, l3⟩ ?_ ?_
      · rintro j σ H4 hj ⟨w, ys, rfl, k4, e4, s4, l4⟩
        have t0 : 0 ≤ a * M / b + (j : Int) := by omega
        have t1 : a * M / b + (j : Int) ≤ 400 := by omega
        have bt : G.Bd 400 (a * M / b + (j : Int)) := (G.Bd.of_le (G.Bd.lit 1000000) (by omega)).mono (by decide +kernel)
        have bt2 : G.Bd 400 M := (G.Bd.of_le (G.Bd.lit 1000000) (by omega)).mono (by decide +kernel)
        generalize hT : a * M / b + (j : Int) = t at *
        have i4 : i < 400 := by omega
        have j4 : j < 400 := by omega
        have hsl : ys.length < sizeLine := by rw [sizeLine_eq]; omega
        walk_at "gob"
        · rename_i y1 y2 y3 o H5 _ k5 e5 H6 m6 e6
          refine ⟨_, _, rfl, (k4.trans k5).md_new m6 hf, e6, ((s4.kp k5).md m6).add (m6.tup e5) ⟨y1, y2, by exact_mod_cast y3, by omega, bt, bt2⟩, ?_⟩
          rw [List.length_append, List.length_singleton]
          omega
        · exact ⟨_, _, rfl, k4, e4, s4, by omega⟩
        · exact ⟨_, _, rfl, k4, e4, s4, by omega⟩
        · exact ⟨_, _, rfl, k4, e4, s4, by omega⟩
      · rintro σ H4 ⟨w, ys, rfl, k4, e4, s4, l4⟩
        walk_at "gob"
        exact ⟨_, _, ys, rfl, k4, e4, s4, by omega⟩
    · rintro σ H3 ⟨v, w, xs, rfl, k3, e3, s3, l3⟩
      walk_at "gob"
      exact q f xs H3 hf k3 e3 s3 (by omega)
theorem small_e (he : H e = some (.tup [.int a, .int b, .int c, .int d])) (h4 : Ends4 a b c d 128) (g0 : 0 ≤ g) (g1 : g ≤ 384) (q : ∀ x xs H', H x = none → G.Kp H H' → H' x = some (.lst xs) → Sm H' a b c d xs → xs.length ≤ 154400 → Q (.ref x) H') : sp_small [.ref e, .int g] H Q E :=
  ⟨e, a, b, c, d, g, rfl, he, h4, g0, g1, q⟩
end
end Lw

namespace Lw
open PySem PySem.Spec PyProof.Rows L2
section
variable {P : Program} {w : World} {K : PySem.W.Frag} {mg : Str → Option Value} {base : Heap} {H H' : Hp} {Q : VK} {E : XK} {p q l r x e : Addr} {a b c d t m i j : Int} {v y : V} {n n' : Nat} {xs : List V}
theorem kb_Piece_kind_fifth (T : Tx K mg) : G.KB0 K (G.fdOf K (a_Piece_kind K)) 1 ["self", "fifth"] ["fifth"] id id := G.kb0_of (F_Piece_kind T) rfl fun _ _ _ _ _ _ us ws h1 h2 => match us, ws, h1, h2 with | [_], [_], _, _ => rfl
theorem Pen.mD (k : G.MD x H H') (h : Pen H p n) : Pen H' p n := by
  obtain ⟨l', i, g, ns, h1, h2, h3⟩ := h
  exact ⟨l', i, g, ns, k.lst h1, k.lst h2, h3⟩
theorem kind_PS {f : Addr} {s : Str} {n : Int} (ip : IsP K H p l r a b c d) (ir : IsR K H f t n) (h1 : a * n < t * b) (h2 : t * d < c * n) (hS : kindS (c * n - d * t) (b * t - a * n) = s) (q : ∀ H', G.Kp H H' → Q (.str s) H') :
    sp_kind K [.ref p, .ref f] H Q E := kind_P ip ir h1 h2 (by rw [hS]; exact q)
theorem kind_PK {f : Addr} {s : Str} {n : Int} (ip : IsP K H p l r a b c d) (ir : IsR K H f t n) (h1 : a * n < t * b) (h2 : t * d < c * n) (hS : kindS (c * n - d * t) (b * t - a * n) = s) (q : ∀ H', G.Kp H H' → Q (.str s) H') :
    sp_kind K (.ref p :: id [.ref f]) H Q E := kind_P ip ir h1 h2 (by rw [hS]; exact q)
theorem lkind_eS {z g : Int} {N : Nat} {s : Str} (he : H e = some (.tup [.int a, .int b, .int c, .int d])) (h4 : Ends4 a b c d z) (hz : z * 2 ^ N ≤ 2000000) (ip : InP a b c d t m) (g0 : 0 ≤ g) (g1 : g + 1 ≤ (N : Int)) (hS : kindS (c * m - d * t) (b * t - a * m) = s) (k : ∀ H', G.Kp H H' → Q (.str s) H') :
    sp_lkind N [.ref e, .int t, .int m, .int g] H Q E := lkind_e he h4 hz ip g0 g1 (by rw [hS]; exact k)
end
end Lw

local macro_rules | `(tactic| walk_at "gx") => `(tactic| first
  | ((with_reducible refine Lw.kind_PS (l := ?z0) (r := ?z1) (a := ?z2) (b := ?z3) (c := ?z4) (d := ?z5) (t := ?z6) (n := ?z7) (s := ?z8) ?ip ?ir ?h1 ?h2 ?hS ?_); (case ip => walk_at "hp"); (case ir => walk_at "hp"); (case h1 => assumption); (case h2 => assumption); (case hS => assumption); intro _ _)
  | ((with_reducible refine Lw.kind_PK (l := ?z0) (r := ?z1) (a := ?z2) (b := ?z3) (c := ?z4) (d := ?z5) (t := ?z6) (n := ?z7) (s := ?z8) ?ip ?ir ?h1 ?h2 ?hS ?_); (case ip => walk_at "hp"); (case ir => walk_at "hp"); (case h1 => assumption); (case h2 => assumption); (case hS => assumption); intro _ _)
  | ((with_reducible refine Lw.lkind_eS (a := ?z0) (b := ?z1) (c := ?z2) (d := ?z3) (z := ?z4) (s := ?z8) ?h1 ?h2 ?h3 ?h4 ?h5 ?h6 ?hS ?_); (case h1 => walk_at "hp"); (case h2 => assumption); (case h3 => first | assumption | omega); (case h4 => assumption); (case h5 => omega); (case h6 => omega); (case hS => assumption); intro _ _))
local macro_rules | `(tactic| walk_at "hp") => `(tactic| (refine Lw.Pen.mD (by assumption) ?_; walk_at "hp"))

namespace Lw
open PySem PySem.Spec PyProof.Rows L2
section
variable {P : Program} {w : World} {K : PySem.W.Frag} {mg : Str → Option Value} {base : Heap} {H H' : Hp} {Q : VK} {E : XK} {p q l r x e : Addr} {a b c d t m i j : Int} {v y : V} {n n' : Nat} {xs : List V}
/-- the two neighbours, by the kind -/
def sp_right : Sp := fun vs H Q _ => ∃ p e a b c d t m n, vs = [.ref p, .ref e, .int t, .int m] ∧ Pen H p n ∧ n < 900000 ∧ H e = some (.tup [.int a, .int b, .int c, .int d]) ∧ Ends4 a b c d 128 ∧ InP a b c d t m ∧
  ∀ H', G.Md p H H' → Pen H' p (n + 1) → Q (.bl true) H'
theorem ok_law_right (T : Tx K mg) : FnOk P w K mg base CX0 9 (a_law_right K) (G.fdOf K (a_law_right K)) ["_law_pen_here", "_law_ends", "_law_top", "_law_bottom"] sp_right := by
  refine G.ok_of (F_law_right T) sc_law_right (fun vs H Q E h => ?_) (fun cdv A outer s H vs Q E hr h => ?_)
  · obtain ⟨p, e, a, b, c, d, t, m, n, rfl, _⟩ := h
    rfl
  · obtain ⟨p, e, a, b, c, d, t, m, n, rfl, hp, hn, he, h4, ip, q⟩ := h
    obtain ⟨nb, h0, h1, h2, h3, sz⟩ := id h4
    have b1 : G.Bd 4000 a := (G.Bd.of_le (G.Bd.lit 1000000) (by omega)).mono (by decide +kernel)
    have b2 : G.Bd 4000 b := (G.Bd.of_le (G.Bd.lit 1000000) (by omega)).mono (by decide +kernel)
    have b3 : G.Bd 4000 c := (G.Bd.of_le (G.Bd.lit 1000000) (by omega)).mono (by decide +kernel)
    have b4 : G.Bd 4000 d := (G.Bd.of_le (G.Bd.lit 1000000) (by omega)).mono (by decide +kernel)
    have b5 := ip.bt
    have b6 := ip.bn
    have i1 := ip.h1
    have i2 := ip.h2
    have i3 := ip.cop
    have i4 := ip.pos
    have hz : (128 : Int) * 2 ^ 6 ≤ 2000000 := by decide
    refine ⟨_, (pss_cons (ps_par (i := 4) (j := 5) (by rfl) sc_law_right.nd rfl rfl (by decide) rfl rfl (pa_cons (pe_call (ok_law_piece T) (hr.mono (by first | decide | omega)) rfl (gl_law_piece T) (F_law_piece T).kp (bi_law_piece T) .nil pass0 (pa_cons (pv 1) pa_nil)) (pa_cons (pe_call (ok_law_draw T) (hr.mono (by first | decide | omega)) rfl (gl_law_draw T) (F_law_draw T).kp (bi_law_draw T) .nil pass0 (pa_cons (pv 0) (pa_cons pe_int pa_nil))) pa_nil)) (by rfl))
    (pss_cons (ps_set (i := 6) sc_law_right.nd rfl (Or.inl rfl) (pe_meth (pv 4) (cl_Piece T) (me_Piece_kind T) (ok_Piece_kind T) (hr.mono (by first | decide | omega)) (bi_Piece_kind T) .nil pass0 (pa_cons (pe_make (mk_Ratio T) (ok_Ratio_init T) (hr.mono (by first | decide | omega)) rfl (gl_Ratio T) (bi_Ratio_init T) .nil pass0 (pa_cons (pv 2) (pa_cons (pv 3) pa_nil))) pa_nil)))
    (pss_cons (ps_if (PW.pt (pw_or (pt_cmpR (G.op_neG hr.units) (pv 6) (pe_call (ok_law_kind T 6) (hr.mono (by first | decide | omega)) rfl (gl_law_kind T) (F_law_kind T).kp (bi_law_kind T) .nil pass0 (pa_cons (pv 1) (pa_cons (pv 2) (pa_cons (pv 3) (pa_cons (pv 5) pa_nil))))) (nomark _)) (pw_or1 (pt_cmpR (G.op_neG hr.units) (G.pe_methK (pv 4) (cl_Piece T) (me_Piece_kind T) (ok_Piece_kind T) (hr.mono (by first | decide | omega)) (kb_Piece_kind_fifth T) pass0 (pk_cons (pe_make (mk_Ratio T) (ok_Ratio_init T) (hr.mono (by first | decide | omega)) rfl (gl_Ratio T) (bi_Ratio_init T) .nil pass0 (pa_cons (pv 2) (pa_cons (pv 3) pa_nil))) pk_nil)) (pv 6) (nomark _))))) (pss_one (ps_ret pe_bl)) pss_nil)
    (pss_cons (ps_set (i := 7) sc_law_right.nd rfl (Or.inl rfl) (pe_lst (pa_cons (pe_call (ok_law_is_beside T) (hr.mono (by first | decide | omega)) rfl (gl_law_is_beside T) (F_law_is_beside T).kp (bi_law_is_beside T) .nil pass0 (pa_cons (pe_slice G.sl_G (pv 1) po_none (po_some pe_int)) (pa_cons (pe_tup (pa_cons (pv 2) (pa_cons (pv 3) pa_nil))) pa_nil))) (pa_cons (pe_call (ok_law_is_beside T) (hr.mono (by first | decide | omega)) rfl (gl_law_is_beside T) (F_law_is_beside T).kp (bi_law_is_beside T) .nil pass0 (pa_cons (pe_tup (pa_cons (pv 2) (pa_cons (pv 3) pa_nil))) (pa_cons (pe_slice G.sl_G (pv 1) (po_some pe_int) po_none) pa_nil))) pa_nil))))
    (pss_one (ps_ret (pe_cmpR (G.op_eqG hr.units) (pv 7) (pe_dget2 (G.one_units hr) (pe_disp (pps_cons pe_str (pe_lst (pa_cons pe_bl (pa_cons pe_bl pa_nil))) (pps_cons pe_str (pe_lst (pa_cons pe_bl (pa_cons pe_bl pa_nil))) (pps_cons pe_str (pe_lst (pa_cons pe_bl (pa_cons pe_bl pa_nil))) pps_nil))) (by rfl) (by rfl) (by intro z; cases z) (by decide)) (pv 6) (pe_lst (pa_cons pe_bl (pa_cons pe_bl pa_nil))) ⟨by rfl, by rfl, by rfl, by rfl⟩) (nomark _)))))))), ?_⟩
    by_cases hv : b * t - a * m = 1 <;> by_cases hu : c * m - d * t = 1
    · have hS : kindS (c * m - d * t) (b * t - a * m) = "middle" := by rw [kindS, if_pos hv, if_pos hu]
      have hu' : m * c - t * d = 1 := by rw [Int.mul_comm m c, Int.mul_comm t d]; exact hu
      walk_at "start"
      walk_at "gob"
      simp [hv, hu']
      exact q _ ⟨hp.is, Pen.is (n := n + 1) (by walk_at "hp"), fun _ _ _ _ => by walk_at "hp"⟩ (by walk_at "hp")
    · have hS : kindS (c * m - d * t) (b * t - a * m) = "left" := by rw [kindS, if_pos hv, if_neg hu]
      have hu' : ¬ m * c - t * d = 1 := by rw [Int.mul_comm m c, Int.mul_comm t d]; exact hu
      walk_at "start"
      walk_at "gob"
      simp [hv, hu']
      exact q _ ⟨hp.is, Pen.is (n := n + 1) (by walk_at "hp"), fun _ _ _ _ => by walk_at "hp"⟩ (by walk_at "hp")
    · have hS : kindS (c * m - d * t) (b * t - a * m) = "right" := by rw [kindS, if_neg hv, if_pos hu]
      have hu' : m * c - t * d = 1 := by rw [Int.mul_comm m c, Int.mul_comm t d]; exact hu
      walk_at "start"
      walk_at "gob"
      simp [hv, hu']
      exact q _ ⟨hp.is, Pen.is (n := n + 1) (by walk_at "hp"), fun _ _ _ _ => by walk_at "hp"⟩ (by walk_at "hp")
    · have hS : kindS (c * m - d * t) (b * t - a * m) = "other" := by rw [kindS, if_neg hv, if_neg hu]
      have hu' : ¬ m * c - t * d = 1 := by rw [Int.mul_comm m c, Int.mul_comm t d]; exact hu
      walk_at "start"
      walk_at "gob"
      simp [hv, hu']
      exact q _ ⟨hp.is, Pen.is (n := n + 1) (by walk_at "hp"), fun _ _ _ _ => by walk_at "hp"⟩ (by walk_at "hp")
end
end Lw

namespace Lw
open PySem PySem.Spec PyProof.Rows L2
section
variable {P : Program} {w : World} {K : PySem.W.Frag} {mg : Str → Option Value} {base : Heap} {H H' : Hp} {Q : VK} {E : XK} {p q l r x e : Addr} {a b c d t m i j g : Int} {v y : V} {n n' : Nat} {xs : List V}
theorem right_p (hp : Pen H p n) (hn : n < 900000) (he : H e = some (.tup [.int a, .int b, .int c, .int d])) (h4 : Ends4 a b c d 128) (ip : InP a b c d t m) (q : ∀ H', G.Md p H H' → Pen H' p (n + 1) → Q (.bl true) H') : sp_right [.ref p, .ref e, .int t, .int m] H Q E :=
  ⟨p, e, a, b, c, d, t, m, n, rfl, hp, hn, he, h4, ip, q⟩
end
end Lw

namespace Lw
open PySem PySem.Spec PyProof.Rows L2
section
variable {P : Program} {w : World} {K : PySem.W.Frag} {mg : Str → Option Value} {base : Heap} {H H' : Hp} {Q : VK} {E : XK} {p q l r x e : Addr} {a b c d t m i j g : Int} {v y : V} {n n' : Nat} {xs : List V}
/-- the pen begins -/
def sp_pen (K : PySem.W.Frag) : Sp := fun vs H Q _ => ∃ (x : Addr) (ns : List Int), vs = [.ref x] ∧ SqL K H x (ns.map V.int) ∧ ns.length ≤ 63 ∧ ∀ p H', H p = none → G.Kp H H' → Pen H' p 0 → Q (.ref p) H'
theorem cut_ints (ns : List Int) (lo hi : Option Int) : ∃ ms : List Int, cutV (ns.map V.int) lo hi = ms.map V.int ∧ ms.length ≤ ns.length :=
  ⟨(ns.drop (HT.sIx ns.length 0 lo)).take (HT.sIx ns.length ns.length hi - HT.sIx ns.length 0 lo), by rw [cutV, List.length_map, List.map_take, List.map_drop], by rw [List.length_take, List.length_drop]; omega⟩
theorem ok_law_pen (T : Tx K mg) : FnOk P w K mg base CX0 1 (a_law_pen K) (G.fdOf K (a_law_pen K)) ["_law_script"] (sp_pen K) := by
  refine G.ok_of (F_law_pen T) sc_law_pen (fun vs H Q E h => ?_) (fun cdv A outer s H vs Q E hr h => ?_)
  · obtain ⟨x, ns, rfl, _⟩ := h
    rfl
  · obtain ⟨x, ns, rfl, hx, ln, q⟩ := h
    refine ⟨_, (pss_one (ps_ret (pe_lst (pa_cons (pe_callTy G.call_listG (by rfl) (fr_list T) boot_list (pa_cons (pe_slice G.sl_G (pv 0) po_none (po_some pe_int)) pa_nil)) (pa_cons pe_int (pa_cons pe_int pa_nil)))))), ?_⟩
    walk_at "start"
    walk_at "go"
    obtain ⟨ms, em, lm⟩ := cut_ints ns none (some 63)
    rename_i p1 H1 n1 k1 e1 p2 H2 n2 k2 e2 p3 H3 n3 k3 e3
    rw [em] at e2
    exact q p3 H3 (by walk_at "fr") ((k1.trans k2).trans k3) ⟨p2, 0, 0, ms, e3, k3 _ _ e2, ne_of_none e2 n3, by omega, by omega, by omega, by omega⟩
theorem pen_s {ns : List Int} (h : SqL K H x (ns.map V.int)) (l : ns.length ≤ 63) (q : ∀ p H', H p = none → G.Kp H H' → Pen H' p 0 → Q (.ref p) H') : sp_pen K [.ref x] H Q E := ⟨x, ns, rfl, h, l, q⟩
theorem Pen.ne {u : Addr} (e : H u = none) (h : Pen H p n) : u ≠ p := by
  obtain ⟨_, _, _, _, e1, _⟩ := h
  exact (ne_of_none e1 e).symm
theorem bd37 {x : Int} (h0 : 0 ≤ x) (h1 : x ≤ 10000000000000000000000000000000000000) : G.Bd 130 x := (G.Bd.of_le (G.Bd.lit (10000000000000000000000000000000000000)) (by omega)).mono (by decide +kernel)
theorem pick2 {u : Addr} (hp : Pen H p n) (hn : n < 1000000) (hl : H u = some (.lst [.int 1, .int (10000000000000000000000000000000000000)])) (nlp : u ≠ p) (z : ∀ k H', 0 < k → k ≤ 10000000000000000000000000000000000000 → G.Bd 130 k → G.Md p H H' → Pen H' p (n + 1) → Q (.int k) H') : sp_pick [.ref p, .ref u] H Q E :=
  pick_p hp hn hl nlp (fun z => by cases z) (by decide) fun v H' hv k' p' => by
    rcases List.mem_cons.mp hv with rfl | hv
    · exact z 1 H' (by decide) (by decide) (bd37 (by decide) (by decide)) k' p'
    · rcases List.mem_singleton.mp hv with rfl
      exact z _ H' (by decide) (by decide) (bd37 (by decide) (by decide)) k' p'
theorem common_p (h1 : 0 < i) (h2 : 0 < j) (l1 : i ≤ 10000000000000000000000000000000000000) (l2 : j ≤ 10000000000000000000000000000000000000) (q : ∀ g, 0 < g → G.Bd 130 g → G.Bd 130 (i / g) → G.Bd 130 (j / g) → 0 < i / g → 0 < j / g → Int.gcd (i / g) (j / g) = 1 → Q (.int g) H) : sp_common [.int i, .int j] H Q E := by
  refine common_i ?_
  have g0 : 0 < Int.gcd i j := Int.gcd_pos_of_ne_zero_left j (by omega)
  have gi : ((Int.gcd i j : Nat) : Int) ∣ i := Int.gcd_dvd_left i j
  have gj : ((Int.gcd i j : Nat) : Int) ∣ j := Int.gcd_dvd_right i j
  have p0 : (0 : Int) < ((Int.gcd i j : Nat) : Int) := by omega
  have i0 : 0 < i / ((Int.gcd i j : Nat) : Int) := Int.ediv_pos_of_pos_of_dvd h1 (by omega) gi
  have j0 : 0 < j / ((Int.gcd i j : Nat) : Int) := Int.ediv_pos_of_pos_of_dvd h2 (by omega) gj
  have gl := Int.le_of_dvd h1 gi
  have il : i / ((Int.gcd i j : Nat) : Int) ≤ i := Int.ediv_le_self _ (by omega)
  have jl : j / ((Int.gcd i j : Nat) : Int) ≤ j := Int.ediv_le_self _ (by omega)
  exact q _ p0 (bd37 (by omega) (by omega)) (bd37 (by omega) (by omega)) (bd37 (by omega) (by omega)) i0 j0 (Int.gcd_ediv_gcd_ediv_gcd g0)
/-- a spot gives a fraction in the piece -/
theorem inP_uv {u v : Int} (h4 : Ends4 a b c d 128) (u0 : 0 < u) (v0 : 0 < v) (g1 : Int.gcd u v = 1) (bu : G.Bd 130 u) (bv : G.Bd 130 v) : InP a b c d (u * a + v * c) (u * b + v * d) := by
  obtain ⟨nb, h0, h1, h2, h3, sz⟩ := id h4
  have e1 : b * (u * a + v * c) - a * (u * b + v * d) = v := by
    have : b * (u * a + v * c) - a * (u * b + v * d) = v * (b * c - a * d) := by
      simp only [Int.mul_add, Int.mul_sub]
      have x1 : b * (u * a) = a * (u * b) := by rw [Int.mul_left_comm, Int.mul_comm b a, Int.mul_left_comm]
      have x2 : b * (v * c) = v * (b * c) := Int.mul_left_comm _ _ _
      have x3 : a * (v * d) = v * (a * d) := Int.mul_left_comm _ _ _
      omega
    rw [this, nb, Int.mul_one]
  have e2 : c * (u * b + v * d) - d * (u * a + v * c) = u := by
    have : c * (u * b + v * d) - d * (u * a + v * c) = u * (b * c - a * d) := by
      simp only [Int.mul_add, Int.mul_sub]
      have x1 : c * (v * d) = d * (v * c) := by rw [Int.mul_left_comm, Int.mul_comm c d, Int.mul_left_comm]
      have x2 : c * (u * b) = u * (b * c) := by rw [Int.mul_left_comm, Int.mul_comm c b]
      have x3 : d * (u * a) = u * (a * d) := by rw [Int.mul_left_comm, Int.mul_comm d a]
      omega
    rw [this, nb, Int.mul_one]
  have bd : ∀ z : Int, 0 ≤ z → z ≤ 128 → G.Bd 8 z := fun z h0 h1 => (G.Bd.of_le (G.Bd.lit 128) (by omega)).mono (by decide +kernel)
  refine ⟨?_, ?_, ?_, ?_, ?_, ?_⟩
  · rw [Int.mul_comm (u * a + v * c) b]; omega
  · rw [Int.mul_comm (u * a + v * c) d]; omega
  · have d1 : ((Int.gcd (u * a + v * c) (u * b + v * d) : Nat) : Int) ∣ u * a + v * c := Int.gcd_dvd_left _ _
    have d2 : ((Int.gcd (u * a + v * c) (u * b + v * d) : Nat) : Int) ∣ u * b + v * d := Int.gcd_dvd_right _ _
    have d3 : ((Int.gcd (u * a + v * c) (u * b + v * d) : Nat) : Int) ∣ v := by
      have := Int.dvd_sub (Int.dvd_trans d1 (Int.dvd_mul_left b _)) (Int.dvd_trans d2 (Int.dvd_mul_left a _))
      rw [e1] at this
      exact this
    have d4 : ((Int.gcd (u * a + v * c) (u * b + v * d) : Nat) : Int) ∣ u := by
      have := Int.dvd_sub (Int.dvd_trans d2 (Int.dvd_mul_left c _)) (Int.dvd_trans d1 (Int.dvd_mul_left d _))
      rw [e2] at this
      exact this
    have d5 := Int.dvd_coe_gcd d4 d3
    rw [g1] at d5
    have le := Int.le_of_dvd (by decide) d5
    have ne : Int.gcd (u * a + v * c) (u * b + v * d) ≠ 0 := fun z => by
      rw [z] at d5
      have := Int.zero_dvd.mp d5
      omega
    omega
  · have := Int.mul_pos u0 (show 0 < b by omega)
    have := Int.mul_pos v0 (show 0 < d by omega)
    omega
  · exact ((bu.mul (bd a (by omega) (by omega))).add (bv.mul (bd c (by omega) (by omega)))).mono (by decide)
  · exact ((bu.mul (bd b (by omega) (by omega))).add (bv.mul (bd d (by omega) (by omega)))).mono (by decide)
theorem walk_q (hp : Pen H p n) (hn : n < 900000) (z : ∀ x H' a b c d, G.Md p H H' → Pen H' p (n + 7) → H' x = some (.tup [.int a, .int b, .int c, .int d]) → Ends4 a b c d 128 → 0 < b + d → b + d ≤ 128 → G.Bd 8 a → G.Bd 8 b → G.Bd 8 c → G.Bd 8 d → Q (.ref x) H') : sp_walk [.ref p, .int 6] H Q E :=
  walk_p hp hn fun x H' a b c d k' p' e' h4 => by
    obtain ⟨nb, h0, h1, h2, h3, sz⟩ := id h4
    have bd : ∀ z : Int, 0 ≤ z → z ≤ 128 → G.Bd 8 z := fun z h0 h1 => (G.Bd.of_le (G.Bd.lit 128) (by omega)).mono (by decide +kernel)
    exact z x H' a b c d k' p' e' h4 (by omega) sz (bd a (by omega) (by omega)) (bd b (by omega) (by omega)) (bd c (by omega) (by omega)) (bd d (by omega) (by omega))
end
end Lw

local macro_rules | `(tactic| walk_at "gx") => `(tactic| first
  | ((with_reducible refine Lw.small_e (a := ?z0) (b := ?z1) (c := ?z2) (d := ?z3) ?h1 ?h2 ?h3 ?h4 ?_); (case h1 => walk_at "hp"); (case h2 => assumption); (case h3 => omega); (case h4 => omega); intro _ _ _ _ _ _ _ _)
  | ((with_reducible refine Lw.right_p (a := ?z0) (b := ?z1) (c := ?z2) (d := ?z3) (n := ?z4) ?h1 ?h2 ?h3 ?h4 ?h5 ?_); (case h1 => walk_at "hp"); (case h2 => omega); (case h3 => walk_at "hp"); (case h4 => assumption); (case h5 => first | assumption | exact Lw.inP_uv (by assumption) (by assumption) (by assumption) (by assumption) (by assumption) (by assumption)); intro _ _ _)
  | ((with_reducible refine Lw.pen_s (ns := ?z0) ?h1 ?h2 ?_); (case h1 => walk_at "hp"); (case h2 => assumption); intro _ _ _ _ _)
  | ((with_reducible refine Lw.pick2 (n := ?z0) ?h1 ?h2 ?h3 ?h4 ?_); (case h1 => walk_at "hp"); (case h2 => omega); (case h3 => walk_at "hp"); (case h4 => first | assumption | exact Lw.Pen.ne (by assumption) (by walk_at "hp")); intro _ _ _ _ _ _ _)
  | ((with_reducible refine Lw.common_p ?h1 ?h2 ?h3 ?h4 ?_); (case h1 => omega); (case h2 => omega); (case h3 => omega); (case h4 => omega); intro _ _ _ _ _ _ _ _)
  | ((with_reducible refine Lw.walk_q (n := ?z0) ?h1 ?h2 ?_); (case h1 => walk_at "hp"); (case h2 => omega); intro _ _ _ _ _ _ _ _ _ _ _ _ _ _ _ _))

namespace Lw
open PySem PySem.Spec PyProof.Rows L2
section
variable {P : Program} {w : World} {K : PySem.W.Frag} {mg : Str → Option Value} {base : Heap} {H H' : Hp} {Q : VK} {E : XK} {p q l r x e : Addr} {a b c d t m i j g : Int} {v y : V} {n n' : Nat} {xs : List V}
def sp_law (K : PySem.W.Frag) : Sp := fun vs H Q _ => ∃ (x : Addr) (ns : List Int), vs = [.ref x] ∧ SqL K H x (ns.map V.int) ∧ ns.length ≤ 63 ∧ ∀ H', Q (.bl true) H'
theorem ok_law (T : Tx K mg) : FnOk P w K mg base CX0 10 (a_law K) (G.fdOf K (a_law K)) ["_law_script"] (sp_law K) := by
  refine G.ok_of (F_law T) sc_law (fun vs H Q E h => ?_) (fun cdv A outer s H vs Q E hr h => ?_)
  · obtain ⟨x, ns, rfl, _⟩ := h
    rfl
  · obtain ⟨x, ns, rfl, hx, ln, q⟩ := h
    refine ⟨_, (pss_cons (ps_set (i := 1) sc_law.nd rfl (Or.inl rfl) (pe_call (ok_law_pen T) (hr.mono (by first | decide | omega)) rfl (gl_law_pen T) (F_law_pen T).kp (bi_law_pen T) .nil pass0 (pa_cons (pv 0) pa_nil)))
    (pss_cons (ps_for PassesOwn.never rfl (pi_range1 rfl (fr_range T) (pa_cons pe_int pa_nil)) (pg_name (i := 2) sc_law.nd rfl (Or.inl rfl)) (pss_cons (ps_set (i := 3) sc_law.nd rfl (Or.inl rfl) (pe_call (ok_law_walk T) (hr.mono (by first | decide | omega)) rfl (gl_law_walk T) (F_law_walk T).kp (bi_law_walk T) .nil pass0 (pa_cons (pv 1) (pa_cons pe_int pa_nil))))
    (pss_cons (ps_for PassesOwn.never rfl (pi_list (pe_call (ok_law_small T) (hr.mono (by first | decide | omega)) rfl (gl_law_small T) (F_law_small T).kp (bi_law_small T) .nil pass0 (pa_cons (pv 3) (pa_cons (pe_op G.op_mulG pe_int (pe_op G.op_addG (pe_ix ix_seq (pv 3) pe_int (fun _ _ => rfl)) (pe_ix ix_seq (pv 3) pe_int (fun _ _ => rfl)))) pa_nil)))) (pg_tup (n := 2) (by rfl) (pgs_cons (pg_name (i := 4) sc_law.nd rfl (Or.inl rfl)) (pgs_cons (pg_name (i := 5) sc_law.nd rfl (Or.inl rfl)) pgs_nil))) (pss_one (ps_if (pt_not (pt_val (pe_call (ok_law_right T) (hr.mono (by first | decide | omega)) rfl (gl_law_right T) (F_law_right T).kp (bi_law_right T) .nil pass0 (pa_cons (pv 1) (pa_cons (pv 3) (pa_cons (pv 4) (pa_cons (pv 5) pa_nil))))))) (pss_one (ps_ret pe_bl)) pss_nil)))
    (pss_one (ps_for PassesOwn.never rfl (pi_range1 rfl (fr_range T) (pa_cons pe_int pa_nil)) (pg_name (i := 6) sc_law.nd rfl (Or.inl rfl)) (pss_cons (ps_par (i := 7) (j := 8) (by rfl) sc_law.nd rfl rfl (by decide) rfl rfl (pa_cons (pe_op G.op_addG pe_int (pe_call (ok_law_draw T) (hr.mono (by first | decide | omega)) rfl (gl_law_draw T) (F_law_draw T).kp (bi_law_draw T) .nil pass0 (pa_cons (pv 1) (pa_cons (pe_call (ok_law_pick T) (hr.mono (by first | decide | omega)) rfl (gl_law_pick T) (F_law_pick T).kp (bi_law_pick T) .nil pass0 (pa_cons (pv 1) (pa_cons (pe_lst (pa_cons pe_int (pa_cons (pe_op G.op_powG pe_int pe_int) pa_nil))) pa_nil))) pa_nil)))) (pa_cons (pe_op G.op_addG pe_int (pe_call (ok_law_draw T) (hr.mono (by first | decide | omega)) rfl (gl_law_draw T) (F_law_draw T).kp (bi_law_draw T) .nil pass0 (pa_cons (pv 1) (pa_cons (pe_call (ok_law_pick T) (hr.mono (by first | decide | omega)) rfl (gl_law_pick T) (F_law_pick T).kp (bi_law_pick T) .nil pass0 (pa_cons (pv 1) (pa_cons (pe_lst (pa_cons pe_int (pa_cons (pe_op G.op_powG pe_int pe_int) pa_nil))) pa_nil))) pa_nil)))) pa_nil)) (by rfl))
    (pss_cons (ps_set (i := 9) sc_law.nd rfl (Or.inl rfl) (pe_call (ok_law_common T) (hr.mono (by first | decide | omega)) rfl (gl_law_common T) (F_law_common T).kp (bi_law_common T) .nil pass0 (pa_cons (pv 7) (pa_cons (pv 8) pa_nil))))
    (pss_cons (ps_par (i := 7) (j := 8) (by rfl) sc_law.nd rfl rfl (by decide) rfl rfl (pa_cons (pe_op G.op_divG (pv 7) (pv 9)) (pa_cons (pe_op G.op_divG (pv 8) (pv 9)) pa_nil)) (by rfl))
    (pss_one (ps_if (pt_not (pt_val (pe_call (ok_law_right T) (hr.mono (by first | decide | omega)) rfl (gl_law_right T) (F_law_right T).kp (bi_law_right T) .nil pass0 (pa_cons (pv 1) (pa_cons (pv 3) (pa_cons (pe_op G.op_addG (pe_op G.op_mulG (pv 7) (pe_ix ix_seq (pv 3) pe_int (fun _ _ => rfl))) (pe_op G.op_mulG (pv 8) (pe_ix ix_seq (pv 3) pe_int (fun _ _ => rfl)))) (pa_cons (pe_op G.op_addG (pe_op G.op_mulG (pv 7) (pe_ix ix_seq (pv 3) pe_int (fun _ _ => rfl))) (pe_op G.op_mulG (pv 8) (pe_ix ix_seq (pv 3) pe_int (fun _ _ => rfl)))) pa_nil))))))) (pss_one (ps_ret pe_bl)) pss_nil))))))))))
    (pss_one (ps_ret pe_bl)))), ?_⟩
    walk_at "start"
    walk_at "go"
    rename_i p H1 _ k1 p1
    refine G.for_rng (fun i σ H' => ∃ v2 v3 v4 v5 v6 v7 v8 v9, σ = [some (.ref x), some (.ref p), v2, v3, v4, v5, v6, v7, v8, v9] ∧ Pen H' p (155000 * i)) ⟨_, _, _, _, _, _, _, _, rfl, p1⟩ ?_ ?_
    · rintro i σ H2 hi ⟨v2, v3, v4, v5, v6, v7, v8, v9, rfl, p2⟩
      walk_at "go"
      rename_i e H3 a b c d m3 p3 e3 h4 s0 s1 ba bb bc bd f xs H4 n4 k4 e4 sm l4
      have nf : f ≠ p := Pen.ne n4 p3
      refine G.for_lst (xs := xs) (fun j σ H' => ∃ v2 v4 v5 v6 v7 v8 v9, σ = [some (.ref x), some (.ref p), v2, some (.ref e), v4, v5, v6, v7, v8, v9] ∧ H' e = some (.tup [.int a, .int b, .int c, .int d]) ∧ H' f = some (.lst xs) ∧ Sm H' a b c d xs ∧ Pen H' p (155000 * i + 7 + j)) ⟨_, _, _, _, _, _, _, rfl, k4 _ _ e3, e4, sm, p3.kp k4⟩ ?_ ?_ ?_
      · rintro j σ H5 hj ⟨v2, v4, v5, v6, v7, v8, v9, rfl, e5, f5, sm5, p5⟩
        exact SqL.of f5
      · rintro j y σ H5 hj ⟨v2, v4, v5, v6, v7, v8, v9, rfl, e5, f5, sm5, p5⟩
        obtain ⟨o, t, m, rfl, eo, ip⟩ := sm5 y (List.mem_of_getElem? hj)
        have jl := (List.getElem?_eq_some_iff.mp hj).1
        walk_at "gob"
        rename_i H6 m6 p6 _
        exact ⟨_, _, _, _, _, _, _, rfl, m6.tup e5, m6.lst f5 nf, sm5.md m6, p6⟩
      · rintro σ H5 ⟨v2, v4, v5, v6, v7, v8, v9, rfl, e5, f5, sm5, p5⟩
        walk_at "go"
        refine G.for_rng (fun k σ H' => ∃ v2 v4 v5 v6 v7 v8 v9, σ = [some (.ref x), some (.ref p), v2, some (.ref e), v4, v5, v6, v7, v8, v9] ∧ H' e = some (.tup [.int a, .int b, .int c, .int d]) ∧ Pen H' p (155000 * i + 7 + 154400 + 5 * k)) ⟨_, _, _, _, _, _, _, rfl, e5, p5.mono (by omega)⟩ ?_ ?_
        · rintro k σ H6 hk ⟨v2, v4, v5, v6, v7, v8, v9, rfl, e6, p6⟩
          walk_at "gob"
          exact ⟨_, _, _, _, _, _, _, rfl, by walk_at "hp", Pen.mono (by assumption) (by omega)⟩
        · rintro σ H6 ⟨v2, v4, v5, v6, v7, v8, v9, rfl, e6, p6⟩
          walk_at "gob"
          exact ⟨_, _, _, _, _, _, _, _, rfl, p6.mono (by omega)⟩
    · rintro σ H2 ⟨v2, v3, v4, v5, v6, v7, v8, v9, rfl, p2⟩
      walk_at "gob"
      exact q _
end
end Lw

/-! ### the head -/
namespace Lw
open PySem PySem.Spec PyProof.Rows L2
abbrev R : PySem.W.OpenRow := PySem.W.OpenLaw.row PySem.Challenge.rw_anyfifth_k08_whole_kinds_of_fifths
abbrev hk : PySem.W.Hook := G.hookX 6 exs fns
def ob (s : PySem.W.SharedT) : He.AlD := G.obsXG 6 exs fns (HandSHeadRun.getT s)
theorem ob_eq (s : PySem.W.SharedT) : ob s = hk.obs s.abs := G.obsXG_eq (HandSHeadRun.getT_eq s)
theorem run (w : World) : HandSHeadRun.RunEq R (PySem.W.view R.prog [37]) hk ob 20000 ["_wall", "is_integer", "FifthError", "BadInput", "Refused", "BadRatio", "BadFifth", "BadPiece", "BadText", "NoDivisor", "FIGURES", "common_divisor", "figures_in", "integer_in", "MOST_FIGURES", "parts_of", "need_divisor", "Ratio", "end_in", "Piece", "_law_pen", "_law_draw", "_law_pick", "_law_walk", "_law_piece", "_law_common", "_law_is_beside", "_law_kind", "_law_near_kind", "_law_right", "_law_small"] w := by
  intro os
  kernel_rfl
end Lw

namespace Lw
open PySem PySem.Spec PyProof.Rows L2
theorem facts {P : Program} {w : World} {K : PySem.W.Frag} {h : Heap} {mg : Str → Option Value} {u : Addr} (X : K.In h) (N : h.Ns mainGlobals mg) (hfa : mg ("law" : Str) = some (.ref u)) (c : G.SaysX exs fns K) :
    ∃ fd : FuncData, (∀ (s : Shared) (v : Value), BindsTo s fd ⟨[v], []⟩ [("_law_script", v)]) ∧ ∀ base : Heap, K.In base → base.Ns mainGlobals mg → FnOk P w K mg base CX0 10 u fd ["_law_script"] (sp_law K) := by
  have T : Tx K mg := G.Txt.mk' X N c
  have e := hfa.symm.trans (gl_law T)
  cases e
  have b := FunD.bindsA (ps := ["_law_script"]) (F_law T) fun _ _ _ _ _ _ us hl => match us, hl with | [_], _ => rfl
  exact ⟨_, fun s v => b s [v] rfl, fun base _ _ => ok_law T⟩
end Lw
open PySem PySem.W PySem.Calls PyProof.Rows
theorem PySem.Challenge.cw_anyfifth_k08_whole_kinds_of_fifths_holds : PySem.Challenge.rw_anyfifth_k08_whole_kinds_of_fifths.Holds := by
  w_on; o_law
  refine HandSHeadRun.head_any (r := OpenLaw.row PySem.Challenge.rw_anyfifth_k08_whole_kinds_of_fifths) (q := view (OpenLaw.row PySem.Challenge.rw_anyfifth_k08_whole_kinds_of_fifths).prog [37]) (H := Lw.hk) (ob := Lw.ob) (M := 20000) (loose := ["_wall", "is_integer", "FifthError", "BadInput", "Refused", "BadRatio", "BadFifth", "BadPiece", "BadText", "NoDivisor", "FIGURES", "common_divisor", "figures_in", "integer_in", "MOST_FIGURES", "parts_of", "need_divisor", "Ratio", "end_in", "Piece", "_law_pen", "_law_draw", "_law_pick", "_law_walk", "_law_piece", "_law_common", "_law_is_beside", "_law_kind", "_law_near_kind", "_law_right", "_law_small"]) (d := HandSHeadRun.topDef (OpenLaw.row PySem.Challenge.rw_anyfifth_k08_whole_kinds_of_fifths).prog 37) (kwd := []) Lw.ob_eq
    (by kernel_rfl) (fun s => by kernel_rfl) Lw.run (by kernel_rfl) (by kernel_rfl) (by kernel_rfl) (by rfl) (by first | assumption | decide +kernel) (by decide +kernel) ⟨rfl, rfl, rfl, rfl, rfl, by decide +kernel⟩ ?hw ?hc
  case hw => w_witness2
  case hc =>
    refine L2.walk_ofE (l := PySem.Challenge.rw_anyfifth_k08_whole_kinds_of_fifths) (n := 63) (k := 10) (x := "_law_script") (CX := L2.CX0) rfl (by decide) (by kernel_rfl) ⟨rfl, by decide, by decide⟩ ?F (fun _ _ _ _ z => z)
    intro w mg u h Y N hu
    obtain ⟨K, KX, c⟩ := Y
    have hl : mg ("law" : PySem.Str) = some (.ref u) := by
      have nm : (HandSHeadRun.topDef (OpenLaw.row PySem.Challenge.rw_anyfifth_k08_whole_kinds_of_fifths).prog 37).name = ("law" : PySem.Str) := by kernel_rfl
      rw [← nm]
      exact hu
    obtain ⟨fd, hb, hF⟩ := Lw.facts (P := (PySem.Challenge.rw_anyfifth_k08_whole_kinds_of_fifths).prog) (w := w) KX N hl c
    exact ⟨K, fd, Lw.sp_law K, KX, hb, fun H a ns le _ hS => ⟨a, ns, rfl, hS, le, fun _ => rfl⟩, hF⟩

