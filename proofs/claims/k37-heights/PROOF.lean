import PyProof.Rows.All
import Wide.All
import OpenK.AllK
import Wide.FinOn
import KE.KStateDown
import HandS.ForMost
import HandS.Wide
import HandS.IsInst
import HandS.Defaults
import HandS.Property
import HandS.More
import HandS.Style
import HandS.ClsMeth
import HandS.SlotsOwn
import HandS.Head0
import HandS.Head1
import HandS.Head2
import HandS.HeadEnd
import HandS.HeadHook1
import HandS.HeadHook2
import HandS.HeadNt
import HandS.Lambda
import HandS.FStr
import KE.KOpsOwn
import KE.KCallOwn
import KE.KFmtOwn
import HandS.TryOnly
import PySem.Challenge.RW_anyfifth_k37_heights
set_option Elab.async false
set_option linter.all false
set_option maxRecDepth 100000
set_option maxHeartbeats 4000000
/-! G: own layer over HandS: heap relations, general operators, step lemmas, a stepping line, the head's facts as Bools. -/
namespace G
open PySem PySem.Spec PyProof.Rows L2

/-! ### heaps -/
/-- all that was tracked is as it was -/
def Kp (H H' : Hp) : Prop := ∀ b o, H b = some o → H' b = some o
/-- the list at p was changed, all else is as it was -/
structure Md (p : Addr) (H H' : Hp) : Prop where
  was : ∃ xs, H p = some (.lst xs)
  now : ∃ xs, H' p = some (.lst xs)
  kp : ∀ b o, b ≠ p → H b = some o → H' b = some o
theorem Kp.refl {H : Hp} : Kp H H := fun _ _ h => h
theorem Kp.trans {H H1 H2 : Hp} (a : Kp H H1) (b : Kp H1 H2) : Kp H H2 := fun c o h => b c o (a c o h)
theorem Kp.new {H : Hp} {p : Addr} {o : HO} (h : H p = none) : Kp H (upd H p o) := fun a u e => by rw [upd_ne (ne_of_none e h)]; exact e
theorem Kp.at {H H' : Hp} {a : Addr} {o : HO} (k : Kp H H') (h : H a = some o) : H' a = some o := k a o h
theorem Kp.back {H H' : Hp} {a : Addr} (k : Kp H H') (h : H' a = none) : H a = none := by
  cases e : H a with
  | none => rfl
  | some o => rw [k a o e] at h; cases h
theorem Md.back {p : Addr} {H H' : Hp} {a : Addr} (k : Md p H H') (h : H' a = none) : H a = none := by
  by_cases e : a = p
  · obtain ⟨xs, q⟩ := k.now
    rw [e, q] at h
    cases h
  · cases q : H a with
    | none => rfl
    | some o => rw [k.kp a o e q] at h; cases h
section
variable {H H' H1 H2 : Hp} {p a : Addr} {xs ys : List V} {C dx : Addr} {fs : List (Str × V)} {o u : HO} {ob : Obj} {kvs : List (Key × V)}
theorem Md.ins (k : Md p H H') (h : H a = some (.ins C dx fs)) : H' a = some (.ins C dx fs) := by
  obtain ⟨zs, e⟩ := k.was
  exact k.kp a _ (ne_of h e (fun z => by cases z)) h
theorem Md.tup (k : Md p H H') (h : H a = some (.tup xs)) : H' a = some (.tup xs) := by
  obtain ⟨zs, e⟩ := k.was
  exact k.kp a _ (ne_of h e (fun z => by cases z)) h
theorem Md.frz (k : Md p H H') (h : H a = some (.frz ob u)) : H' a = some (.frz ob u) := by
  obtain ⟨zs, e⟩ := k.was
  exact k.kp a _ (ne_of h e (fun z => by cases z)) h
theorem Md.dK (k : Md p H H') (h : H a = some (.dK kvs)) : H' a = some (.dK kvs) := by
  obtain ⟨zs, e⟩ := k.was
  exact k.kp a _ (ne_of h e (fun z => by cases z)) h
theorem Md.lst (k : Md p H H') (h : H a = some (.lst xs)) (n : a ≠ p) : H' a = some (.lst xs) := k.kp a _ n h
theorem Md.trans (j : Md p H H1) (k : Md p H1 H2) : Md p H H2 := ⟨j.was, k.now, fun b o n h => k.kp b o n (j.kp b o n h)⟩
theorem Md.of_kp (h : H p = some (.lst xs)) (k : Kp H H') : Md p H H' := ⟨⟨xs, h⟩, ⟨xs, k _ _ h⟩, fun b o _ e => k b o e⟩
theorem Md.kp_r (j : Md p H H1) (k : Kp H1 H2) : Md p H H2 := ⟨j.was, let ⟨xs, e⟩ := j.now; ⟨xs, k _ _ e⟩, fun b o n h => k b o (j.kp b o n h)⟩
theorem Kp.md_r (j : Kp H H1) (k : Md p H1 H2) (h : H p = some (.lst xs)) : Md p H H2 := ⟨⟨xs, h⟩, k.now, fun b o n h => k.kp b o n (j b o h)⟩
/-- a new list changes: nothing of before changes -/
theorem Kp.md_new (j : Kp H H1) (k : Md p H1 H2) (h : H p = none) : Kp H H2 := fun b o e => k.kp b o (ne_of_none e h) (j b o e)
theorem Md.md_new {q : Addr} (j : Md p H H1) (k : Md q H1 H2) (h : H q = none) : Md p H H2 := by
  refine ⟨j.was, ?_, fun b o n e => k.kp b o (ne_of_none e h) (j.kp b o n e)⟩
  obtain ⟨xs, e⟩ := j.now
  obtain ⟨zs, w⟩ := j.was
  exact ⟨xs, k.kp p _ (ne_of_none w h) e⟩
theorem Md.upd (h : H p = some (.lst xs)) : Md p H (L2.upd H p (.lst ys)) := ⟨⟨xs, h⟩, ⟨ys, upd_same⟩, fun b o n e => by rw [upd_ne n]; exact e⟩
theorem SqT.kp {K : PySem.W.Frag} (k : Kp H H') (h : SqT K H a xs) : SqT K H' a xs := by
  rcases h with (h | ⟨o, h⟩) | h
  · exact .inl (.inl (k _ _ h))
  · exact .inl (.inr ⟨o, k _ _ h⟩)
  · exact .inr h
theorem SqT.md {K : PySem.W.Frag} (k : Md p H H') (h : SqT K H a xs) : SqT K H' a xs := by
  rcases h with (h | ⟨o, h⟩) | h
  · exact .inl (.inl (k.tup h))
  · exact .inl (.inr ⟨o, k.frz h⟩)
  · exact .inr h
theorem SqL.kp {K : PySem.W.Frag} (k : Kp H H') (h : SqL K H a xs) : SqL K H' a xs := by
  rcases h with (h | ⟨o, h⟩) | h
  · exact .inl (.inl (k _ _ h))
  · exact .inl (.inr ⟨o, k _ _ h⟩)
  · exact .inr h
end
/-- facts about tracked objects: from one heap to a later one, on demand -/
local macro_rules | `(tactic| walk_at "hp") => `(tactic| first
  | assumption
  | (refine SqT.kp (by assumption) ?_; walk_at "hp")
  | (refine SqT.md (by assumption) ?_; walk_at "hp")
  | (refine SqL.kp (by assumption) ?_; walk_at "hp")
  | (refine Kp.at (by assumption) ?_; walk_at "hp")
  | (refine Md.tup (by assumption) ?_; walk_at "hp")
  | (refine Md.ins (by assumption) ?_; walk_at "hp")
  | (refine Md.frz (by assumption) ?_; walk_at "hp")
  | (refine Md.lst (by assumption) ?_ (by first | assumption | (apply Ne.symm; assumption)); walk_at "hp")
  | (refine SqT.of ?_; walk_at "hp")
  | (refine SqL.of ?_; walk_at "hp"))
example {K : PySem.W.Frag} {H H1 H2 : Hp} {a p : Addr} (k : Kp H H1) (m : Md p H1 H2) (h : SqT K H a [.int 1]) : SqT K H2 a [.int 1] := by walk_at "hp"
example {K : PySem.W.Frag} {H H1 H2 : Hp} {a p : Addr} (k : Kp H H1) (m : Md p H1 H2) (h : H a = some (.tup [.int 1])) : ∃ xs, SqT K H2 a xs := by
  refine ⟨?_, ?h⟩
  case h => walk_at "hp"
end G
namespace G
open PySem PySem.Spec PyProof.Rows L2
/-! ### defs of the text: where they stand, the head's facts as Bools -/
/-- the def object at an address -/
def fdOf (K : PySem.W.Frag) (a : Addr) : FuncData := match K.lookup a with
  | some ⟨_, _, .func fd, _⟩ => fd
  | _ => PySem.W.fnOf Str.empty Str.empty { posonlyargs := [], args := [], vararg := none, kwonlyargs := [], kw_defaults := [], kwarg := none, defaults := [] } [] { kind := .function, names := [], isGenerator := false, isCoroutine := false } .none .none .none .none none .none .none
abbrev ExB : Type := PySem.W.Frag → Bool
def obsX (ex : List ExB) (fn : List He5.DefA) (K : PySem.W.Frag) : He.AlD := ((ex.all fun f => f K) && fn.all fun d => d.ok K, fn.map fun d => He5.fnA K (d.at_ K))
def SaysX (ex : List ExB) (fn : List He5.DefA) (K : PySem.W.Frag) : Prop := obsX ex fn K = He5.valA fn
def obsXG (n : Nat) (ex : List ExB) (fn : List He5.DefA) (g : Addr → Option Obj) : He.AlD := obsX ex fn (He.frG g (He5.asA g n))
def hookX (n : Nat) (ex : List ExB) (fn : List He5.DefA) : PySem.W.Hook where
  α := He.AlD
  obs := fun s => obsXG n ex fn s.heap.get?
  val := fun _ => He5.valA fn
  says := fun _ h => ∃ K : PySem.W.Frag, K.In h ∧ SaysX ex fn K
  of := fun _ _ e => ⟨_, He.frG_in, e⟩
  keeps := fun _ _ _ ⟨K, hK, c⟩ k => ⟨K, PySem.W.Frag.In.keeps hK k, c⟩
theorem obsXG_eq {n : Nat} {ex : List ExB} {fn : List He5.DefA} {g : Addr → Option Obj} {s : Shared} (h : ∀ a, g a = s.heap.get? a) : obsXG n ex fn g = (hookX n ex fn).obs s := by
  have e : g = s.heap.get? := funext h
  rw [e] <;> rfl
/-- what a claim's text knows of the written part: its Bools, its defs, the module's names -/
structure Txt (ex : List ExB) (fn : List He5.DefA) (K : PySem.W.Frag) (mg : Str → Option Value) : Prop where
  says : SaysX ex fn K
  glo : ∀ x a, PySem.W.nsIn K mainGlobals x = some (some a) → mg x = some a
  fre : ∀ x, PySem.W.nsIn K mainGlobals x = some none → mg x = none
section
variable {ex : List ExB} {fn : List He5.DefA} {K : PySem.W.Frag} {mg : Str → Option Value}
theorem Txt.mk' {h : Heap} (X : K.In h) (G : h.Ns mainGlobals mg) (c : SaysX ex fn K) : Txt ex fn K mg := ⟨c, fun _ _ e => PySem.W.mg_of X G e, fun _ e => PySem.W.mg_none_of X G e⟩
theorem Txt.fact (T : Txt ex fn K mg) (i : Nat) {f : ExB} (h : ex[i]? = some f := by rfl) : f K = true := by
  have c1 := (He.ba (show ((ex.all fun f => f K) && fn.all fun d => d.ok K) = true from congrArg (fun z : He.AlD => z.1) T.says)).1
  exact List.all_eq_true.mp c1 f (List.mem_of_getElem? h)
theorem Txt.def_ (T : Txt ex fn K mg) (i : Nat) {d : He5.DefA} (h : fn[i]? = some d := by rfl) : L2.FunD K d.name d.qual d.params d.body d.scope (d.dvs K) (d.kws K) (d.at_ K) (fdOf K (d.at_ K)) := by
  have c2 := (He.ba (show ((ex.all fun f => f K) && fn.all fun d => d.ok K) = true from congrArg (fun z : He.AlD => z.1) T.says)).2
  have e : fn.map (fun d => He5.fnA K (d.at_ K)) = fn.map He5.DefA.val := congrArg (fun z : He.AlD => z.2) T.says
  have e2 : (fn.map fun d => He5.fnA K (d.at_ K))[i]? = (fn.map He5.DefA.val)[i]? := by rw [e]
  rw [List.getElem?_map, List.getElem?_map, h] at e2
  obtain ⟨fd, F⟩ := He5.DefA.funD (Option.some.inj e2) (List.all_eq_true.mp c2 d (List.mem_of_getElem? h))
  obtain ⟨oc, od, dV, kV, doc, pm, an, cdv, ct, osl, e3, lk, r⟩ := F.ex
  have e4 : fdOf K (d.at_ K) = fd := by
    unfold fdOf
    rw [lk]
  rw [e4]
  exact F
/-- a global name's object -/
def gloB (x : Str) : ExB := fun K => He.eqO (PySem.W.nsIn K mainGlobals x) (some (some (.ref (He.ga K x))))
def freB (x : Str) : ExB := fun K => He.eqO (PySem.W.nsIn K mainGlobals x) (some none)
theorem Txt.gl (T : Txt ex fn K mg) (i : Nat) (x : Str) (h : ex[i]? = some (gloB x) := by rfl) : mg x = some (.ref (He.ga K x)) := T.glo x _ (He.eqO_ok (T.fact i h))
theorem Txt.fr (T : Txt ex fn K mg) (i : Nat) (x : Str) (h : ex[i]? = some (freB x) := by rfl) : mg x = none := T.fre x (He.eqO_ok (T.fact i h))
/-- an own class: attributes, isinstance, its making -/
def clsB (x : Str) : ExB := fun K => (He.Fa.cls x).ok K
def noatB (x f : Str) : ExB := fun K => (He.Fa.noat x f).ok K
def methB (x m : Str) : ExB := fun K => (He.Fa.meth x m).ok K
def mkrB (x : Str) : ExB := fun K => (He.Fa.mkr x).ok K
/-- what isinstance asks of instances of the class x -/
def isiB (x : Str) : ExB := fun K => He.eqO (PySem.W.findIn K (.ref (He.ga K x)) "__class__") (some (some (.builtin "object.__class__"))) && (He.eqO (PySem.W.specialIn K (.builtin "object.__class__") "__get__") (some (some (.builtin "getset_descriptor.__get__"))) &&
  (decide (PySem.W.takesIn K (.builtin "object.__class__") = some true) && decide (PySem.W.mroIn K (He.ga K x) (.type "object") = some true)))
structure IsiC (K : PySem.W.Frag) (C : Addr) : Prop where
  ha : PySem.W.findIn K (.ref C) "__class__" = some (some (.builtin "object.__class__"))
  hn : PySem.W.specialIn K (.builtin "object.__class__") "__get__" = some (some (.builtin "getset_descriptor.__get__"))
  ht : PySem.W.takesIn K (.builtin "object.__class__") = some true
  hm : PySem.W.mroIn K C (.type "object") = some true
theorem isiB_ok {x : Str} (h : isiB x K = true) : IsiC K (He.ga K x) := by
  obtain ⟨h1, h⟩ := He.ba h
  obtain ⟨h2, h⟩ := He.ba h
  obtain ⟨h3, h4⟩ := He.ba h
  exact ⟨He.eqO_ok h1, He.eqO_ok h2, of_decide_eq_true h3, of_decide_eq_true h4⟩
/-- isinstance(a thing of type t, the class x) is b -/
def kitB (t : PySem.W.Frag → Value) (x : Str) (b : Bool) : ExB := fun K => decide (PySem.W.kitOne K (t K) (.ref (He.ga K x)) = some b)
theorem kitB_ok {t : PySem.W.Frag → Value} {x : Str} {b : Bool} (h : kitB t x b K = true) : PySem.W.kitOne K (t K) (.ref (He.ga K x)) = some b := of_decide_eq_true h
/-- .. with a built-in class -/
def kitTB (t : PySem.W.Frag → Value) (x : String) (b : Bool) : ExB := fun K => decide (PySem.W.kitOne K (t K) (.type x) = some b)
theorem kitTB_ok {t : PySem.W.Frag → Value} {x : String} {b : Bool} (h : kitTB t x b K = true) : PySem.W.kitOne K (t K) (.type x) = some b := of_decide_eq_true h
/-- the class x is read as classes are -/
def rdB (x : Str) : ExB := fun K => PySem.W.readsIn K (He.ga K x) (.type "type") && He.eqO (PySem.W.specialIn K (.ref (He.ga K x)) "__getattribute__") (some (some (.builtin "type.__getattribute__")))
theorem rdB_ok {x : Str} (h : rdB x K = true) : ClX.CRead K (He.ga K x) (.type "type") := ⟨(He.ba h).1, He.eqO_ok (He.ba h).2⟩
/-- a static method -/
def smA (x m : Str) : PySem.W.Frag → Addr := fun K => He5.wf K (He.ga K x) "staticmethod" m
def smB (x m : Str) : ExB := fun K => He5.wrapB K (He.ga K x) "staticmethod" "staticmethod.__get__" m && PySem.W.keepIn K (.ref (smA x m K))
structure SMet (K : PySem.W.Frag) (C : Addr) (mc : Value) (m : Str) (g : Addr) : Prop where
  ex : ∃ (p : Addr) (rest : List Value), PySem.W.findCls K (.ref C) mc m = some (.get (.builtin "staticmethod.__get__") (.ref p) .none (.ref C)) ∧ PySem.W.recIn K p "staticmethod" = some (.ref g :: rest)
  kp : PySem.W.keepIn K (.ref g) = true
theorem smB_ok {x m : Str} (h : smB x m K = true) : SMet K (He.ga K x) (.type "type") m (smA x m K) := by
  obtain ⟨h1, h2⟩ := He.ba h
  obtain ⟨h3, rest, h4⟩ := He5.wrapB_ok h1
  exact ⟨⟨_, rest, h3, h4⟩, h2⟩
/-- a def of the class x for an operator; no class t stands before it -/
def ownB (x m : Str) : ExB := fun K => He.eqO (PySem.W.findIn K (.ref (He.ga K x)) m) (some (some (.ref (He.ma K (He.ga K x) m)))) && PySem.W.isFn K (.ref (He.ma K (He.ga K x) m))
structure OwnM (K : PySem.W.Frag) (C : Addr) (m : Str) (g : Addr) : Prop where
  at_ : PySem.W.findIn K (.ref C) m = some (some (.ref g))
  fn : PySem.W.isFn K (.ref g) = true
theorem ownB_ok {x m : Str} (h : ownB x m K = true) : OwnM K (He.ga K x) m (He.ma K (He.ga K x) m) := ⟨He.eqO_ok (He.ba h).1, (He.ba h).2⟩
def nfB (x : Str) (t : PySem.W.Frag → Value) : ExB := fun K => PySem.W.notFirst K (He.ga K x) (t K)
/-- a property -/
def prA (x m : Str) : PySem.W.Frag → Addr := fun K => He5.wf K (He.ga K x) "property" m
def prB (x m : Str) : ExB := fun K => He.eqO (PySem.W.findIn K (.ref (He.ga K x)) m) (some (some (.ref (He.ma K (He.ga K x) m)))) && (He.eqO (PySem.W.specialIn K (.ref (He.ma K (He.ga K x) m)) "__get__") (some (some (.builtin "property.__get__"))) &&
  (decide (PySem.W.takesIn K (.ref (He.ma K (He.ga K x) m)) = some true) && (match PySem.W.recIn K (He.ma K (He.ga K x) m) "property" with
    | some (.ref _ :: _) => true
    | _ => false)))
theorem prB_ok {x m : Str} (h : prB x m K = true) : L2.PropOf K (He.ga K x) m (He.ma K (He.ga K x) m) (prA x m K) := by
  obtain ⟨h1, h⟩ := He.ba h
  obtain ⟨h2, h⟩ := He.ba h
  obtain ⟨h3, h4⟩ := He.ba h
  refine ⟨He.eqO_ok h1, He.eqO_ok h2, of_decide_eq_true h3, ?_⟩
  unfold prA He5.wf
  split at h4
  · rename_i f r e
    exact ⟨r, by rw [e]⟩
  · cases h4
end
section
variable {P : Program} {w : World} {K : PySem.W.Frag} {mg : Str → Option Value} {base : Heap} {x qual : Str} {st : Stmt} {dvs : List V} {kws : List (Str × V)} {f : Addr} {fd : FuncData}
/-- room for calls k deep, and no text of a container is being made -/
structure RoomG (k : Nat) (A : Around) : Prop where
  rm : Room k A
  gs : A.guards = some []
theorem RoomG.mono {j k : Nat} {A : Around} (r : RoomG k A) (h : j ≤ k) : RoomG j A := ⟨r.rm.mono h, r.gs⟩
theorem RoomG.deeper {k : Nat} {A : Around} (r : RoomG (k + 1) A) (env : Env) : RoomG k (A.deeper env) := ⟨r.rm.deeper env, r.gs⟩
theorem RoomG.units {k : Nat} {A : Around} (r : RoomG k A) : A.units + 64 < cLine := r.rm.units
theorem RoomG.units0 {k : Nat} {A : Around} (r : RoomG k A) : A.units < cLine := r.rm.units0
theorem RoomG.in1 {k : Nat} {A : Around} (r : RoomG (k + 1) A) : RoomG k A.in1 := ⟨r.rm.in1, r.gs⟩
theorem RoomG.make {k : Nat} {A : Around} (r : RoomG (k + 1) A) (C : Addr) (us : List Value) (kw : List (Str × Value)) : RoomG k (A.under (.builtin "type.__call__" ⟨.ref C :: us, kw⟩)) := ⟨r.rm.make C us kw, by
  have e : (A.under (.builtin "type.__call__" ⟨.ref C :: us, kw⟩)).guards = A.guards := by
    first | rfl | (cases q : A.guards <;> simp [Around.under, Code.guards, Code.isGuard, pushGuards, guardIds, q])
  rw [e]
  exact r.gs⟩
/-- what a def promises to every call that has such room -/
structure FnG (P : Program) (w : World) (K : PySem.W.Frag) (mg : Str → Option Value) (base : Heap) (CX : CXT) (k : Nat) (f : Addr) (fd : FuncData) (ps : List Str) (sp : Sp) : Prop where
  len : ∀ {vs : List V} {H : Hp} {Q : VK} {E : XK}, sp vs H Q E → vs.length = ps.length
  run : ∀ {A : Around} {outer : List Env} {s : Shared} {H : Hp} {args : Args} {us : List Value} {vs : List V} {Q : VK} {E : XK},
    RoomG k A → Env0 P w K mg base A outer s H → BindsTo s fd args (ps.zip us) → Vals vs us → sp vs H Q E → codeAny (model P w) A (.call (.ref f) args) (CR CX outer P w H s Q E) s
theorem FnG.mono {P : Program} {w : World} {K : PySem.W.Frag} {mg : Str → Option Value} {base : Heap} {CX : CXT} {j k : Nat} {f : Addr} {fd : FuncData} {ps : List Str} {sp : Sp}
    (F : FnG P w K mg base CX j f fd ps sp) (h : j ≤ k) : FnG P w K mg base CX k f fd ps sp := ⟨F.len, fun r => F.run (r.mono h)⟩
/-- a def's promise, by its body; what the body may let out is told by CX -/
theorem okX_of {CX : CXT} {N ps : List Str} {k : Nat} {sp : Sp} (F : L2.FunD K x qual (defArgs st) (defBody st) (defScope st) dvs kws f fd) (S : FnScope N ps (defScope st)) (len : ∀ vs H Q E, sp vs H Q E → vs.length = ps.length)
    (hbody : ∀ (cdv : Value) (A : Around) (outer : List Env) (s : Shared) (H : Hp) (vs : List V) (Q : VK) (E : XK), RoomG k (A.deeper (envOfC qual (defScope st) s.heap.objs.size f cdv)) → sp vs H Q E →
      ∃ t, PSs (cxOf CX P w K mg base N qual (defScope st) f cdv A outer s H E) (defBody st) t ∧ t { nx := fun _ H' => Q .non H', rt := Q } (start N vs) H) : FnG P w K mg base CX (k + 1) f fd ps sp := by
  obtain ⟨oc, od, dV, kV, doc, pm, an, cdv, ct, osl, rfl, lk, hcd, _, _⟩ := F.ex
  exact ⟨fun h => len _ _ _ _ h, fun {A outer s H args us vs Q E} r e0 hb rv h => LamX.run_ofS lk hcd S r.rm e0 hb rv (len _ _ _ _ h) fun _ => hbody cdv A outer s H vs Q E (r.deeper _) h⟩
/-- THE RULE for a def that lets no exception out -/
theorem ok_of {N ps : List Str} {k : Nat} {sp : Sp} (F : L2.FunD K x qual (defArgs st) (defBody st) (defScope st) dvs kws f fd) (S : FnScope N ps (defScope st)) (len : ∀ vs H Q E, sp vs H Q E → vs.length = ps.length)
    (hbody : ∀ (cdv : Value) (A : Around) (outer : List Env) (s : Shared) (H : Hp) (vs : List V) (Q : VK) (E : XK), RoomG k (A.deeper (envOfC qual (defScope st) s.heap.objs.size f cdv)) → sp vs H Q E →
      ∃ t, PSs (cxOf CX0 P w K mg base N qual (defScope st) f cdv A outer s H E).nox (defBody st) t ∧ t { nx := fun _ H' => Q .non H', rt := Q } (start N vs) H) : FnG P w K mg base CX0 (k + 1) f fd ps sp :=
  okX_of F S len fun cdv A outer s H vs Q E hr hsp => let ⟨t, h, q⟩ := hbody cdv A outer s H vs Q E hr hsp; ⟨t, h.nox, q⟩
end
/-! ### calls -/
section
variable {X : Cx} {CX : CXT} {k : Nat} {f C : Addr} {fd : FuncData} {ps : List Str} {sp : Sp} {dvs : List V} {ds : List Value} {E : XK} {x m : Str} {p pos apos : Pos} {e o : Expr} {es : List Expr} {ta : TE} {t : TA} {pins : List (Addr × Obj)} {σ : L2.St} {H : Hp} {s : Shared} {Q : VK} {us : List Value} {vs : List V} {pl : Sem Bool}
/-- a call's end, as its caller X sees it -/
def ER (X : Cx) (pins : List (Addr × Obj)) (σ : L2.St) (Q : VK) : Result → Shared → Prop
  | .ok (.ret u), s' => EP X pins σ Q u s'
  | .ok _, _ => False
  | .error e, s' => X.xe e s'
theorem er_of {r : Result} {s' : Shared} (hx : Passes CX X E) (I : Inv X pins σ H s) (hq : CR CX X.stack X.prog X.w H s Q E r s') : ER X pins σ Q r s' := by
  match r, hq with
  | .error e, hq => exact hx pins σ H s e s' I hq
  | .ok (.ret u), hq => exact I.after hq
  | .ok .next, hq => exact hq
  | .ok .brk, hq => exact hq
  | .ok .cont, hq => exact hq
theorem wp_er {A' : Around} {us : List Value} {kw : List (Str × Value)} (h : codeAny (model X.prog X.w) A' (.call (.ref f) ⟨us, kw⟩) (ER X pins σ Q) s) : wpAny (model X.prog X.w) A' (call (.ref f) us kw) (EP X pins σ Q) X.xe s :=
  wpAny_call (codeAny_mono h fun r s' hq => by
    match r, hq with
    | .error _, hq => exact hq
    | .ok (.ret _), hq => exact hq)
theorem run_at {A' : Around} {args : Args} {ws : List Value} (F : FnG X.prog X.w X.K X.mg X.base CX k f fd ps sp) (hr : RoomG k A') (e0 : Env0 X.prog X.w X.K X.mg X.base A' X.stack s H) (hx : Passes CX X E) (I : Inv X pins σ H s) (hb : BindsTo s fd args (ps.zip ws)) (r : Vals vs ws) (h : sp vs H Q E) :
    codeAny (model X.prog X.w) A' (.call (.ref f) args) (ER X pins σ Q) s := codeAny_mono (F.run hr e0 hb r h) fun _ _ hq => er_of hx I hq
theorem len_of (F : FnG X.prog X.w X.K X.mg X.base CX k f fd ps sp) (hd : Vals dvs ds) (r : Vals vs us) (h : sp (vs ++ dvs) H Q E) : (us ++ ds).length = ps.length := by rw [← (r.append hd).length]; exact F.len h
theorem run_fnG (F : FnG X.prog X.w X.K X.mg X.base CX k f fd ps sp) (hr : RoomG k X.A) (hb : Binds X.K fd ps ds) (hd : Vals dvs ds) (hx : Passes CX X E) (I : Inv X pins σ H s) (r : Vals vs us) (h : sp (vs ++ dvs) H Q E) :
    wpAny (model X.prog X.w) X.A (call (.ref f) us) (EP X pins σ Q) X.xe s := wp_er (run_at F hr I.env0 hx I (hb s us I.kIn (len_of F hd r h)) (r.append hd) h)
/-- x(e, ..), x(): a def of the module -/
theorem pe_callG (F : FnG X.prog X.w X.K X.mg X.base CX k f fd ps sp) (hr : RoomG k X.A) (hg : Gl X x) (hm : X.mg x = some (.ref f)) (hk : PySem.W.keepIn X.K (.ref f) = true) (hb : Binds X.K fd ps ds) (hd : Vals dvs ds) (hx : Passes CX X E) (ha : PA X (e :: es) t)
    (hdb : (x == ("__debug__" : Str)) = false := by decide) (he : starEach (e :: es) X.env = (false, eval e X.env) :: starEach es X.env := by rfl) (hpl : (backTo pos (starEach es X.env)).any (·.1) = false := by rfl) : PE X (.Call (.Name x p) (e :: es) [] pos) (tCall sp dvs E t) :=
  ⟨fun pins s σ H _ I h => wpAny_Call_Name_kw (ld_glob I hg hm (PySem.W.callWith_K (h₀ := X.base) I.ok.mod.kin hk (thn (ha.run pos pins s σ H _ I h) fun _ _ ⟨_, _, J, r, q⟩ => ⟨J.kIn, run_fnG F hr hb hd hx J r q⟩) he hpl) hdb)⟩
theorem pe_callG0 (F : FnG X.prog X.w X.K X.mg X.base CX k f fd ps sp) (hr : RoomG k X.A) (hg : Gl X x) (hm : X.mg x = some (.ref f)) (hk : PySem.W.keepIn X.K (.ref f) = true) (hb : Binds X.K fd ps ds) (hd : Vals dvs ds) (hx : Passes CX X E)
    (hdb : (x == ("__debug__" : Str)) = false := by decide) : PE X (.Call (.Name x p) [] [] pos) (tCall sp dvs E tNil) :=
  ⟨fun _ _ _ _ _ I h => wpAny_Call_Name_kw (ld_glob I hg hm (PySem.W.callWith_K0 I.kIn hk (run_fnG (us := []) F hr hb hd hx I .nil h)) hdb)⟩
/-- the text of o.m(..) as it is run -/
def MethT (X : Cx) (o : Expr) (m : Str) (apos pos : Pos) (es : List Expr) (kws : List Keyword) (pl : Sem Bool) : Prop :=
  eval (.Call (.Attribute o m apos) es kws pos) X.env = (do
    let u ← eval o X.env
    standAt apos.atName
    let (g, first) ← holding [u] (getMethod u m pl)
    callWith pos g first (backTo pos (starEach es X.env)) (backToKw pos (keywordEach kws X.env)))
theorem pe_methG (he : PE X o ta) (c : Cls X.K C) (hm : Meth X.K C m f) (F : FnG X.prog X.w X.K X.mg X.base CX k f fd ps sp) (hr : RoomG k X.A) (hb : Binds X.K fd ps ds) (hd : Vals dvs ds) (hx : Passes CX X E) (ha : PA X (e :: es) t)
    (hst : starEach (e :: es) X.env = (false, eval e X.env) :: starEach es X.env := by rfl) (hpl : (backTo pos (starEach es X.env)).any (·.1) = false := by rfl) (ht : MethT X o m apos pos (e :: es) [] pl := by rfl) :
    PE X (.Call (.Attribute o m apos) (e :: es) [] pos) (tMeth C m sp dvs E ta t) :=
  ⟨fun pins s σ H _ I h => PySem.W.methodCall_KW (pl := pl) (thn (he.run pins s σ H _ I h) fun u s1 ⟨x, H1, J, rx, a, dx, fs, ex, ea, l, q⟩ => by
    subst ex
    cases (show u = Value.ref a from rx)
    exact getmeth_ok J ea c hm l (PySem.W.callWith_K (first := [.ref a]) (h₀ := X.base) J.ok.mod.kin hm.kp (thn (ha.run pos pins s1 σ H1 _ J q) fun us _ ⟨vs, _, J2, r, q2⟩ => ⟨J2.kIn, run_fnG (us := .ref a :: us) (vs := .ref a :: vs) F hr hb hd hx J2 (.cons rfl r) q2⟩) hst hpl)) ht⟩
theorem pe_methG0 (he : PE X o ta) (c : Cls X.K C) (hm : Meth X.K C m f) (F : FnG X.prog X.w X.K X.mg X.base CX k f fd ps sp) (hr : RoomG k X.A) (hb : Binds X.K fd ps ds) (hd : Vals dvs ds) (hx : Passes CX X E)
    (ht : MethT X o m apos pos [] [] pl := by rfl) : PE X (.Call (.Attribute o m apos) [] [] pos) (tMeth C m sp dvs E ta tNil) :=
  ⟨fun pins s σ H _ I h => PySem.W.methodCall_KW (pl := pl) (thn (he.run pins s σ H _ I h) fun u s1 ⟨x, H1, J, rx, a, dx, fs, ex, ea, l, q⟩ => by
    subst ex
    cases (show u = Value.ref a from rx)
    exact getmeth_ok J ea c hm l (PySem.W.callWith_K0 (first := [.ref a]) J.kIn hm.kp (run_fnG (us := [.ref a]) (vs := [.ref a]) F hr hb hd hx J (.cons rfl .nil) q))) ht⟩
/-- C(..), C an own class with an __init__ -/
theorem run_makeG (M : Mk X.K C f) (F : FnG X.prog X.w X.K X.mg X.base CX k f fd ps sp) (hr : RoomG (k + 1) X.A) (hb : Binds X.K fd ps ds) (hd : Vals dvs ds) (hx : Passes CX X E) (I : Inv X pins σ H s) (r : Vals vs us)
    (h : ∀ a dx, H a = none → H dx = none → dx ≠ a → sp (.ref a :: (vs ++ dvs)) (upd (upd H dx (.own a)) a (.ins C dx [])) (fun v H2 => v = .non ∧ Q (.ref a) H2) E) : wpAny (model X.prog X.w) X.A (call (.ref C) us) (EP X pins σ Q) X.xe s := by
  have hq := h (s.heap.objs.size + 1) s.heap.objs.size (I.hok.fresh (Nat.le_add_right _ 1)) (I.hok.fresh (Nat.le_refl _)) (Nat.ne_of_lt (Nat.lt_add_one _))
  have J := Inv.made (C := C) I
  have rv : Vals (V.ref (s.heap.objs.size + 1) :: vs) (Value.ref (s.heap.objs.size + 1) :: us) := .cons rfl r
  have run := run_at F (hr.make C us []) (J.env0.make C us []) hx J (hb _ _ J.kIn (len_of F hd rv hq)) (rv.append hd) hq
  refine wpAny_call (make_map (f := f) I.kIn M.makes M.init (beq_iff_eq.mp M.fn) (codeAny_mono run fun r s' z => ?_))
  match r, z with
  | .error _, z => exact z
  | .ok (.ret u), ⟨v, H', J', rn, ev, q⟩ =>
    subst ev
    exact ⟨rn, V.ref (s.heap.objs.size + 1), H', J', rfl, q⟩
theorem pe_makeG (M : Mk X.K C f) (F : FnG X.prog X.w X.K X.mg X.base CX k f fd ps sp) (hr : RoomG (k + 1) X.A) (hg : Gl X x) (hm : X.mg x = some (.ref C)) (hb : Binds X.K fd ps ds) (hd : Vals dvs ds) (hx : Passes CX X E) (ha : PA X (e :: es) t)
    (hdb : (x == ("__debug__" : Str)) = false := by decide) (he : starEach (e :: es) X.env = (false, eval e X.env) :: starEach es X.env := by rfl) (hpl : (backTo pos (starEach es X.env)).any (·.1) = false := by rfl) : PE X (.Call (.Name x p) (e :: es) [] pos) (tMake C sp dvs E t) :=
  ⟨fun pins s σ H _ I h => wpAny_Call_Name_kw (ld_glob I hg hm (PySem.W.callWith_K (h₀ := X.base) I.ok.mod.kin M.kp (thn (ha.run pos pins s σ H _ I h) fun _ _ ⟨_, _, J, r, q⟩ => ⟨J.kIn, run_makeG M F hr hb hd hx J r q⟩) he hpl) hdb)⟩
end
/-! ### calls of static methods; methods with keywords -/
/-- C.m(..), C an own class, m a static method -/
def tSM (C : Addr) (sp : Sp) (dvs : List V) (E : XK) (ta : TE) (t : TA) : TE := fun σ H Q => ta σ H fun x H1 => x = .ref C ∧ t σ H1 fun vs H2 => sp (vs ++ dvs) H2 Q E
/-- o.m(k = v, ..), o an instance of the class at C -/
def tMethK (C : Addr) (m : Str) (sp : Sp) (gV : List V → List V) (E : XK) (ta : TE) (tk : TA) : TE := fun σ H Q => ta σ H fun x H1 => ∃ a dx fs, x = .ref a ∧ H1 a = some (.ins C dx fs) ∧ fs.lookup m = none ∧ tk σ H1 fun zs H2 => sp (x :: gV zs) H2 Q E
/-- the keywords alone, in the order g -/
structure KB0 (K : PySem.W.Frag) (fd : FuncData) (n : Nat) (ps ks : List Str) (g : List Value → List Value) (gV : List V → List V) : Prop where
  to : ∀ (s : Shared) (us ws : List Value), K.In s.heap → us.length = n → (us ++ g ws).length = ps.length → BindsTo s fd ⟨us, ks.zip ws⟩ (ps.zip (us ++ g ws))
  rel : ∀ {zs : List V} {ws : List Value}, Vals zs ws → Vals (gV zs) (g ws)
section
variable {X : Cx} {CX : CXT} {k : Nat} {C p g : Addr} {mc : Value} {sp : Sp} {E : XK} {o e : Expr} {es : List Expr} {f m : Str} {pos apos : Pos} {ta : TE} {t tk : TA} {pl : Sem Bool} {fd : FuncData} {ps ks : List Str} {dvs : List V} {ds : List Value} {kws : List Keyword}
theorem pe_smeth (he : PE X o ta) (r : ClX.CRead X.K C mc) (c : SMet X.K C mc m g) (F : FnG X.prog X.w X.K X.mg X.base CX k g fd ps sp) (hr : RoomG k X.A) (hb : Binds X.K fd ps ds) (hd : Vals dvs ds) (hx : Passes CX X E) (ha : PA X (e :: es) t)
    (hst : starEach (e :: es) X.env = (false, eval e X.env) :: starEach es X.env := by rfl) (hpl : (backTo pos (starEach es X.env)).any (·.1) = false := by rfl)
    (ht : eval (.Call (.Attribute o m apos) (e :: es) [] pos) X.env = (do
      let ov ← eval o X.env
      standAt apos.atName
      let (f, first) ← holding [ov] (getMethod ov m pl)
      callWith pos f first (backTo pos (starEach (e :: es) X.env)) (backToKw pos (keywordEach [] X.env))) := by rfl) :
    PE X (.Call (.Attribute o m apos) (e :: es) [] pos) (tSM C sp dvs E ta t) := by
  refine ⟨fun pins s σ H Q I h => ?_⟩
  refine PySem.W.methodCall_KW (pl := pl) (thn (he.run pins s σ H _ I h) fun u s1 ⟨x, H1, I1, rx, ex, q⟩ => ?_) ht
  subst ex
  obtain rfl : u = Value.ref C := rx
  obtain ⟨p, rest, h1, h2⟩ := c.ex
  refine PySem.W.method_cls I1.kIn r.ga (PySem.W.cls_bind I1.kIn r.rd h1 (wpAny_call (PySem.W.sm_get (s := { s1 with toks := s1.toks + 1 }) I1.kIn h2 (PySem.W.handed_on rfl ?_))))
  have I2 := I1.tok (s1.toks + 1)
  refine PySem.W.callWith_K (first := []) (h₀ := X.base) I2.ok.mod.kin c.kp (thn (ha.run pos pins _ σ H1 _ I2 q) fun us s2 ⟨vs, H2, I3, rv, q2⟩ => ⟨I3.kIn, ?_⟩) hst hpl
  exact run_fnG F hr hb hd hx I3 rv q2
theorem run_kb0 {pins : List (Addr × Obj)} {σ : L2.St} {H : Hp} {s : Shared} {Q : VK} {us ws : List Value} {vs zs : List V} {gg : List Value → List Value} {gV : List V → List V} {n : Nat} (F : FnG X.prog X.w X.K X.mg X.base CX k g fd ps sp) (hr : RoomG k X.A) (hb : KB0 X.K fd n ps ks gg gV) (hx : Passes CX X E)
    (I : Inv X pins σ H s) (hn : us.length = n) (r : Vals vs us) (rz : Vals zs ws) (h : sp (vs ++ gV zs) H Q E) : wpAny (model X.prog X.w) X.A (call (.ref g) us (ks.zip ws)) (EP X pins σ Q) X.xe s :=
  have l : (us ++ gg ws).length = ps.length := by rw [← (r.append (hb.rel rz)).length]; exact F.len h
  wp_er (run_at F hr I.env0 hx I (hb.to s us ws I.kIn hn l) (r.append (hb.rel rz)) h)
theorem pe_methK {gg : List Value → List Value} {gV : List V → List V} (he : PE X o ta) (c : Cls X.K C) (hm : Meth X.K C m g) (F : FnG X.prog X.w X.K X.mg X.base CX k g fd ps sp) (hr : RoomG k X.A) (hb : KB0 X.K fd 1 ps ks gg gV) (hx : Passes CX X E) (hkw : PK X kws tk)
    (hall : (backToKw pos (keywordEach kws X.env)).all (·.1.isSome) = true := by rfl) (hks : (backToKw pos (keywordEach kws X.env)).filterMap (·.1) = ks := by rfl)
    (hpl : ((backTo pos (starEach [] X.env)).any (·.1) || (backToKw pos (keywordEach kws X.env)).any (·.1.isNone)) = false := by rfl)
    (ht : eval (.Call (.Attribute o m apos) [] kws pos) X.env = (do
      let ov ← eval o X.env
      standAt apos.atName
      let (f, first) ← holding [ov] (getMethod ov m pl)
      callWith pos f first (backTo pos (starEach [] X.env)) (backToKw pos (keywordEach kws X.env))) := by rfl) :
    PE X (.Call (.Attribute o m apos) [] kws pos) (tMethK C m sp gV E ta tk) := by
  refine ⟨fun pins s σ H Q I h => ?_⟩
  refine PySem.W.methodCall_KW (pl := pl) (thn (he.run pins s σ H _ I h) fun u s1 ⟨x, H1, I1, rx, a, dx, fs, ex, ea, l, q⟩ => ?_) ht
  subst ex
  obtain rfl : u = Value.ref a := rx
  refine getmeth_ok I1 ea c hm l ?_
  refine PySem.W.callWith_KW0 (first := [.ref a]) (h₀ := X.base) I1.ok.mod.kin hm.kp hall (thn (hkw.run pos pins s1 σ H1 _ I1 q) fun ws s2 ⟨zs, H2, I2, rz, q2⟩ => ⟨I2.kIn, ?_⟩) hpl
  rw [hks]
  exact run_kb0 (us := [.ref a]) (vs := [.ref a]) F hr hb hx I2 rfl (.cons rfl .nil) rz q2
end

/-! ### operators that an own class defines -/
section
variable {X : Cx} {CX : CXT} {k : Nat} {C g : Addr} {sp : Sp} {E : XK} {fd : FuncData} {ps : List Str}
/-- x op y (a comparison), x an instance of the class at C whose def for op is at g -/
def rCmpO (K : PySem.W.Frag) (C : Addr) (sp : Sp) (E : XK) : R2 := fun x y H Q => ∃ a dx fs t, x = .ref a ∧ H a = some (.ins C dx fs) ∧ TyX K H y t ∧ PySem.W.notFirst K C t = true ∧ sp [x, y] H Q E
theorem op_cmpO {op : CmpOp} (hop : ∀ a b, compareOp op a b = richCompare op a b) (hs : OwnM X.K C (cmpInfo op).2.1 g) (F : FnG X.prog X.w X.K X.mg X.base CX k g fd ps sp) (hr : RoomG k X.A) (hb : Binds X.K fd ps []) (hx : Passes CX X E) :
    OpR X (compareOp op) (rCmpO X.K C sp E) := by
  intro pins s σ H x y v u Q I rx ry h
  obtain ⟨a, dx, fs, t, rfl, ha, ty, hn, q⟩ := h
  cases (show v = Value.ref a from rx)
  obtain ⟨mA, O, _⟩ := ins_get I.hok ha
  obtain ⟨od, J, _⟩ := O.look
  obtain ⟨m, hF⟩ := I.fr
  obtain ⟨Pt, Z, pz, _⟩ := kit_of I ry ty
  rw [hop]
  refine PySem.W.cmp_K (op := op) (tb := t) hr.units0 hF I.ok.mod.kin J (Z.ty _ _ I.kIn pz) hn hs.at_ hs.fn ?_
  refine thn (run_fnG (us := [.ref a, u]) (vs := [.ref a, y]) F hr hb .nil hx I (.cons rfl (.cons ry .nil)) q) fun w s' z => ?_
  obtain ⟨z', H', I', rz, qz⟩ := z
  exact SlX.cmpback rz ⟨z', H', I', rz, qz⟩
/-- v in x, x an instance of the class at C with a __contains__ at g -/
def rInO (C : Addr) (neg : Bool) (sp : Sp) (E : XK) : R2 := fun v x H Q => ∃ a dx fs, x = .ref a ∧ H a = some (.ins C dx fs) ∧ sp [x, v] H (fun z H' => ∃ b, z = .bl b ∧ Q (.bl (if neg then !b else b)) H') E
theorem op_inO (hs : OwnM X.K C "__contains__" g) (F : FnG X.prog X.w X.K X.mg X.base CX k g fd ps sp) (hr : RoomG k X.A) (hb : Binds X.K fd ps []) (hx : Passes CX X E) : OpR X (compareOp .In) (rInO C false sp E) := by
  intro pins s σ H v x u w Q I rv rx h
  obtain ⟨a, dx, fs, rfl, ha, q⟩ := h
  cases (show w = Value.ref a from rx)
  obtain ⟨mA, O, _⟩ := ins_get I.hok ha
  obtain ⟨od, J, _⟩ := O.look
  obtain ⟨m, hF⟩ := I.fr
  refine PySem.W.in_K hF I.ok.mod.kin J hs.at_ hs.fn (thn (run_fnG (us := [.ref a, u]) (vs := [.ref a, v]) F hr hb .nil hx I (.cons rfl (.cons rv .nil)) q) fun r s' z => ?_)
  obtain ⟨z', H', I', rz, b, ez, qz⟩ := z
  subst ez
  cases (show r = Value.bool b from rz)
  exact wpAny_truthy_bool ⟨.bl b, H', I', rfl, qz⟩
theorem op_notInO (hs : OwnM X.K C "__contains__" g) (F : FnG X.prog X.w X.K X.mg X.base CX k g fd ps sp) (hr : RoomG k X.A) (hb : Binds X.K fd ps []) (hx : Passes CX X E) : OpR X (compareOp .NotIn) (rInO C true sp E) := by
  intro pins s σ H v x u w Q I rv rx h
  obtain ⟨a, dx, fs, rfl, ha, q⟩ := h
  cases (show w = Value.ref a from rx)
  obtain ⟨mA, O, _⟩ := ins_get I.hok ha
  obtain ⟨od, J, _⟩ := O.look
  obtain ⟨m, hF⟩ := I.fr
  refine PySem.W.notIn_K hF I.ok.mod.kin J hs.at_ hs.fn (thn (run_fnG (us := [.ref a, u]) (vs := [.ref a, v]) F hr hb .nil hx I (.cons rfl (.cons rv .nil)) q) fun r s' z => ?_)
  obtain ⟨z', H', I', rz, b, ez, qz⟩ := z
  subst ez
  cases (show r = Value.bool b from rz)
  exact wpAny_truthy_bool ⟨.bl (!b), H', I', rfl, qz⟩
end
end G
namespace G
open PySem PySem.Spec PyProof.Rows L2
/-! ### sizes of ints -/
/-- below 2 ^ n in size -/
def Bd (n : Nat) (x : Int) : Prop := x.natAbs < 2 ^ n
theorem Bd.mono {n m : Nat} {x : Int} (h : Bd n x) (l : n ≤ m) : Bd m x := Nat.lt_of_lt_of_le h (Nat.pow_le_pow_right (by decide) l)
theorem Bd.lit (x : Int) : Bd (x.natAbs.log2 + 1) x := Nat.lt_log2_self
theorem Bd.of_le {n : Nat} {x y : Int} (h : Bd n y) (l : x.natAbs ≤ y.natAbs) : Bd n x := Nat.lt_of_le_of_lt l h
theorem Bd.mul {a b : Nat} {x y : Int} (h : Bd a x) (k : Bd b y) : Bd (a + b) (x * y) := wide_lt h k
theorem Bd.add {a b : Nat} {x y : Int} (h : Bd a x) (k : Bd b y) : Bd (a + b + 1) (x + y) := by
  have h1 := Bd.mono h (show a ≤ a + b by omega)
  have h2 := Bd.mono k (show b ≤ a + b by omega)
  unfold Bd at *
  have e : (2 : Nat) ^ (a + b + 1) = 2 ^ (a + b) + 2 ^ (a + b) := by rw [Nat.pow_succ]; omega
  rw [e]
  omega
theorem Bd.neg {a : Nat} {x : Int} (h : Bd a x) : Bd a (-x) := by unfold Bd at *; rw [Int.natAbs_neg]; exact h
theorem Bd.sub {a b : Nat} {x y : Int} (h : Bd a x) (k : Bd b y) : Bd (a + b + 1) (x - y) := by rw [Int.sub_eq_add_neg]; exact h.add k.neg
theorem Bd.of_range {n : Nat} {x y : Int} (h0 : 0 ≤ x) (h1 : x ≤ y) (k : Bd n y) : Bd n x := Bd.of_le k (by omega)
theorem log_of {a : Nat} {x : Int} (h : Bd a x) : x.natAbs.log2 ≤ a := by
  by_cases e : a = 0
  · subst e
    have : x.natAbs = 0 := by unfold Bd at h; omega
    rw [this]; decide
  · exact Nat.le_of_lt (PySem.Flt.log2_lt_of (by omega) h)
theorem mulOk {a b : Nat} {x y : Int} (h : Bd a x) (k : Bd b y) (l : a + b < 1000000) : IntMulOk x y := CMulW.ok (by
  have := log_of h
  have := log_of k
  unfold CMulW
  omega)
theorem mulOkL {x y : Int} (h : -(2 ^ 64) < x ∧ x < 2 ^ 64) : IntMulOk x y := CMul.ok (.inl h)
theorem mulOkR {x y : Int} (h : -(2 ^ 64) < y ∧ y < 2 ^ 64) : IntMulOk x y := CMul.ok (.inr h)

/-! ### general operators -/
def CDivG (_ j : Int) : Prop := j ≠ 0 ∧ j.natAbs.log2 < 9000
def rAddG (K : PySem.W.Frag) : R2 := fun x y H Q => (rI0 fun i j => .int (i + j)) x y H Q ∨ (∃ i j, x = .str i ∧ y = .str j ∧ i.length + j.length ≤ sizeLine ∧ Q (.str (i ++ j)) H) ∨ rCatT K x y H Q ∨ rCat x y H Q
def rSubG : R2 := rI0 fun i j => .int (i - j)
def rMulG : R2 := fun x y H Q => (rI IntMulOk fun i j => .int (i * j)) x y H Q ∨ rRep x y H Q
def rDivG : R2 := rI CDivG fun i j => .int (i.fdiv j)
def rModG : R2 := rI (fun _ j => j ≠ 0) fun i j => .int (i.fmod j)
def rPowG : R2 := rI CPow fun i j => .int (i ^ j.toNat)
def rNegG : V → Hp → VK → Prop := rU fun i => .int (-i)
def rLtG : R2 := rI0 fun i j => .bl (decide (i < j))
def rLeG : R2 := rI0 fun i j => .bl (decide (i ≤ j))
def rGtG : R2 := rI0 fun i j => .bl (decide (j < i))
def rGeG : R2 := rI0 fun i j => .bl (decide (j ≤ i))
def rEqG (K : PySem.W.Frag) : R2 := fun x y H Q => rEq x y H Q ∨ rEqD K x y H Q
def rNeG (K : PySem.W.Frag) : R2 := fun x y H Q => rNe x y H Q ∨ rNeD K x y H Q
def rIsNG : R2 := fun x y H Q => y = .non ∧ Q (.bl (decide (x = .non))) H
def rNotNG : R2 := fun x y H Q => y = .non ∧ Q (.bl (!decide (x = .non))) H
def rAbsG : List V → Hp → VK → Prop := fun xs H Q => ∃ i, xs = [.int i] ∧ Q (.int (if i < 0 then -i else i)) H
def rIntG : List V → Hp → VK → Prop := fun xs H Q => (∃ i, xs = [.int i] ∧ Q (.int i) H) ∨ ∃ k, xs = [.bl k] ∧ Q (.int (if k then 1 else 0)) H
def rBoolG : List V → Hp → VK → Prop := fun xs H Q => (∃ i, xs = [.int i] ∧ Q (.bl (i != 0)) H) ∨ ∃ k, xs = [.bl k] ∧ Q (.bl k) H
def rLenG (K : PySem.W.Frag) : List V → Hp → VK → Prop := fun xs H Q => (∃ p ys, xs = [.ref p] ∧ (SqL K H p ys ∨ SqT K H p ys) ∧ Q (.int ys.length) H) ∨ ∃ z, xs = [.str z] ∧ z.length ≤ sizeLine ∧ Q (.int z.length) H
def rListG (K : PySem.W.Frag) : List V → Hp → VK → Prop := fun xs H Q => ∃ p ys, xs = [.ref p] ∧ (SqL K H p ys ∨ SqT K H p ys) ∧ ∀ l, H l = none → Q (.ref l) (upd H l (.lst ys))
def rIsiG (K : PySem.W.Frag) : List V → Hp → VK → Prop := rIsi K
def rSlG (K : PySem.W.Frag) : V → Option Int → Option Int → Hp → VK → Prop := fun x lo hi H Q => rSlL K x lo hi H Q ∨ rSlT K x lo hi H Q ∨ rSlS x lo hi H Q
section
variable {X : Cx}
theorem op_addG : OpR X (binaryOp .Add) (rAddG X.K) := op_add.or (op_add_str.or (op_catT.or op_cat))
theorem op_subG : OpR X (binaryOp .Sub) rSubG := op_sub
theorem op_mulG : OpR X (binaryOp .Mult) rMulG := OpR.or (opI fun _ _ _ _ _ _ _ hc q => mul_int q hc) op_rep
theorem op_divG : OpR X (binaryOp .FloorDiv) rDivG := opI fun _ _ _ _ _ _ _ hc q => floordiv_int hc.1 q (.inl (PyProof.noPylong_of_log2 hc.2))
theorem op_modG : OpR X (binaryOp .Mod) rModG := op_modN
theorem op_powG : OpR X (binaryOp .Pow) rPowG := op_pow
theorem un_negG : UnR X (unaryOp .USub) rNegG := un_neg
theorem op_ltG : OpR X (compareOp .Lt) rLtG := op_lt
theorem op_leG : OpR X (compareOp .LtE) rLeG := op_le
theorem op_gtG : OpR X (compareOp .Gt) rGtG := op_gt
theorem op_geG : OpR X (compareOp .GtE) rGeG := op_ge
theorem op_eqG (hu : X.A.units + 64 < cLine) : OpR X (compareOp .Eq) (rEqG X.K) := op_eq.or (op_eqD hu)
theorem op_neG (hu : X.A.units + 64 < cLine) : OpR X (compareOp .NotEq) (rNeG X.K) := op_ne.or (op_neD hu)
theorem op_isNG : OpR X (compareOp .Is) rIsNG := op_isN
theorem op_notNG : OpR X (compareOp .IsNot) rNotNG := op_notN
theorem call_absG : CallR X (.builtin "abs") rAbsG := call_abs
theorem call_intG : CallR X (.type "int") rIntG := call_int1
theorem call_boolG : CallR X (.type "bool") rBoolG := call_bool1
theorem call_lenG : CallR X (.builtin "len") (rLenG X.K) := call_len_seq.or call_len_str
theorem call_listG : CallR X (.type "list") (rListG X.K) := call_list_of
theorem call_isiG : CallR X (.builtin "isinstance") (rIsiG X.K) := call_isi
theorem sl_G : SlR X (rSlG X.K) := sl_list.or (sl_tup.or sl_str)
end

/-! ### step lemmas -/
def ParK (i j : Nat) (vs : List V) (σ : L2.St) (H1 : Hp) (n : L2.St → Hp → Prop) : Prop := ∃ v w, vs = [v, w] ∧ n ((σ.set i (some v)).set j (some w)) H1
def SFldK (K : PySem.W.Frag) (f : Str) (x y : V) (H : Hp) (R : Hp → Prop) : Prop := ∃ a C dx fs, x = .ref a ∧ H a = some (.ins C dx fs) ∧ Cls K C ∧ NoAttr K C f ∧ fs.length < 1000 ∧ R (upd H a (.ins C dx (putF f y fs)))
def BmK (K : PySem.W.Frag) (T : String) (x : V) (H : Hp) (P : Prop) : Prop := tyV K T x H ∧ P
section
variable {K : PySem.W.Frag} {σ σ' : L2.St} {H : Hp} {Q : VK} {v x y : V} {i : Nat} {ta tb tc te to ti : TE} {tt uu : TT} {t u ts : TS} {tl : TA} {n : L2.St → Hp → Prop} {r : VK} {b c : L2.St → Hp → Prop} {a p : Addr} {xs ys : List V} {k j : Int} {bb : Bool}
theorem st_var (h : σ[i]? = some (some v)) (q : Q v H) : tVar i σ H Q := ⟨v, h, q⟩
theorem st_c (q : Q v H) : tC v σ H Q := q
theorem st_op {rr : R2} (q : ta σ H fun x H1 => tb σ H1 fun y H2 => rr x y H2 Q) : tOp rr ta tb σ H Q := q
theorem st_un {rr : V → Hp → VK → Prop} (q : ta σ H fun x H1 => rr x H1 Q) : tUn rr ta σ H Q := q
theorem st_test {R : Bool → Hp → Prop} (q : te σ H fun x H' => ∃ k, x = .bl k ∧ R k H') : tTest te σ H R := q
theorem st_B {R : Bool → Hp → Prop} (q : te σ H fun x H' => ∃ k, x = .bl k ∧ R k H') : tB te σ H R := q
theorem st_exbl {R : Bool → Hp → Prop} (q : R bb H) : ∃ k, V.bl bb = V.bl k ∧ R k H := ⟨bb, rfl, q⟩
theorem st_exblP {R : Bool → Prop} (q : R bb) : ∃ k, V.bl bb = V.bl k ∧ R k := ⟨bb, rfl, q⟩
theorem st_and {R : Bool → Hp → Prop} (q : tt σ H fun c H1 => if c = true then uu σ H1 R else R false H1) : tAnd tt uu σ H R := q
theorem st_or {R : Bool → Hp → Prop} (q : tt σ H fun c H1 => if c = true then R true H1 else uu σ H1 R) : tOr tt uu σ H R := q
theorem st_not {R : Bool → Hp → Prop} (q : tt σ H fun c H1 => R (!c) H1) : tNot tt σ H R := q
theorem st_andV (q : ta σ H fun x H1 => ∃ c, x = .bl c ∧ if c = true then tb σ H1 Q else Q (.bl false) H1) : tAndV ta tb σ H Q := q
theorem st_orV (q : ta σ H fun x H1 => ∃ c, x = .bl c ∧ if c = true then Q (.bl true) H1 else tb σ H1 Q) : tOrV ta tb σ H Q := q
theorem st_notV (q : ta σ H fun x H1 => ∃ c, x = .bl c ∧ Q (.bl (!c)) H1) : tNotV ta σ H Q := q
theorem st_ifE (q : tt σ H fun c H1 => if c = true then ta σ H1 Q else tb σ H1 Q) : tIf tt ta tb σ H Q := q
theorem st_ite {A B : Prop} (h1 : bb = true → A) (h2 : bb = false → B) : if bb = true then A else B := by
  cases bb with
  | true => rw [if_pos rfl]; exact h1 rfl
  | false => rw [if_neg Bool.false_ne_true]; exact h2 rfl
theorem st_iteT {A B : Prop} (h : A) : if true = true then A else B := by rw [if_pos rfl]; exact h
theorem st_iteF {A B : Prop} (h : B) : if false = true then A else B := by rw [if_neg Bool.false_ne_true]; exact h
theorem st_chain {r1 r2 : R2} (q : ta σ H fun x H1 => tb σ H1 fun y H2 => r1 x y H2 fun z H3 => ∃ k, z = .bl k ∧ (if k = true then tc σ H3 fun w' H4 => r2 y w' H4 Q else Q (.bl false) H3)) : tChain r1 r2 ta tb tc σ H Q := q
theorem st_nil {R : List V → Hp → Prop} (q : R [] H) : tNil σ H R := q
theorem st_cons {R : List V → Hp → Prop} (q : ta σ H fun x H1 => tl σ H1 fun xs H2 => R (x :: xs) H2) : tCons ta tl σ H R := q
/-- a new tuple, a new list -/
def TupK (xs : List V) (H : Hp) (Q : VK) : Prop := xs.length ≤ sizeLine ∧ ∀ p, H p = none → Q (.ref p) (upd H p (.tup xs))
def LstK (xs : List V) (H : Hp) (Q : VK) : Prop := xs.length ≤ sizeLine ∧ ∀ p, H p = none → Q (.ref p) (upd H p (.lst xs))
theorem st_tup (q : tl σ H fun xs H1 => TupK xs H1 Q) : tTup tl σ H Q := q
theorem st_lst (q : tl σ H fun xs H1 => LstK xs H1 Q) : tLst tl σ H Q := q
theorem sz1000 {n : Nat} (h : n ≤ 1000) : n ≤ sizeLine := Nat.le_trans h (by decide)
theorem st_tupK (h : xs.length ≤ 1000) (q : ∀ p H', H p = none → Kp H H' → H' p = some (.tup xs) → Q (.ref p) H') : TupK xs H Q := ⟨sz1000 h, fun p e => q p _ e (Kp.new e) upd_same⟩
theorem st_lstK (h : xs.length ≤ 1000) (q : ∀ p H', H p = none → Kp H H' → H' p = some (.lst xs) → Q (.ref p) H') : LstK xs H Q := ⟨sz1000 h, fun p e => q p _ e (Kp.new e) upd_same⟩
/-- calls -/
theorem st_call {sp : Sp} {E : XK} (q : tl σ H fun vs H1 => sp vs H1 Q E) : tCall sp [] E tl σ H Q := by
  unfold tCall
  simp only [List.append_nil]
  exact q
theorem st_sm {C : Addr} {sp : Sp} {E : XK} (q : tl σ H fun vs H1 => sp vs H1 Q E) : tSM C sp [] E (tC (.ref C)) tl σ H Q := by
  refine ⟨rfl, ?_⟩
  simp only [List.append_nil]
  exact q
theorem st_cb {R : List V → Hp → VK → Prop} (q : tl σ H fun vs H1 => R vs H1 Q) : tCB R tl σ H Q := q
/-- what a method's call asks of its receiver -/
def RecvK (C : Addr) (m : Str) (x : V) (H : Hp) (R : Prop) : Prop := ∃ a dx fs, x = .ref a ∧ H a = some (.ins C dx fs) ∧ fs.lookup m = none ∧ R
theorem st_meth {C : Addr} {m : Str} {sp : Sp} {E : XK} (q : ta σ H fun x H1 => RecvK C m x H1 (tl σ H1 fun vs H2 => sp (x :: vs) H2 Q E)) : tMeth C m sp [] E ta tl σ H Q := by
  unfold tMeth
  simp only [List.append_nil]
  exact q
theorem st_methK {C : Addr} {m : Str} {sp : Sp} {E : XK} {gV : List V → List V} {tk : TA} (q : ta σ H fun x H1 => RecvK C m x H1 (tk σ H1 fun zs H2 => sp (x :: gV zs) H2 Q E)) : tMethK C m sp gV E ta tk σ H Q := q
theorem st_recv {C dx : Addr} {m : Str} {fs : List (Str × V)} {R : Prop} (h : H a = some (.ins C dx fs)) (l : fs.lookup m = none) (q : R) : RecvK C m (.ref a) H R := ⟨a, dx, fs, rfl, h, l, q⟩
/-- an attribute -/
def FldK (K : PySem.W.Frag) (f : Str) (x : V) (H : Hp) (Q : VK) : Prop := ∃ a C dx fs v, x = .ref a ∧ H a = some (.ins C dx fs) ∧ Cls K C ∧ NoAttr K C f ∧ fs.lookup f = some v ∧ Q v H
theorem st_fld {f : Str} (q : ta σ H fun x H1 => FldK K f x H1 Q) : tFld K ta f σ H Q := q
theorem st_fldK {C dx : Addr} {f : Str} {fs : List (Str × V)} (h : H a = some (.ins C dx fs)) (c : Cls K C) (na : NoAttr K C f) (l : fs.lookup f = some v) (q : Q v H) : FldK K f (.ref a) H Q := ⟨a, C, dx, fs, v, rfl, h, c, na, l, q⟩
/-! operators on values -/
theorem add_ii (q : Q (.int (k + j)) H) : rAddG K (.int k) (.int j) H Q := .inl ⟨k, j, rfl, rfl, q⟩
theorem add_ss {z w : Str} (h : z.length + w.length ≤ sizeLine) (q : Q (.str (z ++ w)) H) : rAddG K (.str z) (.str w) H Q := .inr (.inl ⟨z, w, rfl, rfl, h, q⟩)
theorem eq_t2 {d : Addr} {i0 i1 j0 j1 : Int} (h1 : SqT K H a [.int i0, .int i1]) (h2 : SqT K H d [.int j0, .int j1]) (q : Q (.bl (decide (i0 = j0 ∧ i1 = j1))) H) : rEqG K (.ref a) (.ref d) H Q :=
  .inr ⟨_, _, .tup h1 (.cons (.int _) (.cons (.int _) .nil)), .tup h2 (.cons (.int _) (.cons (.int _) .nil)), by rfl, by rfl, by
    have e : PyData.eqv (.tuple [.int i0, .int i1]) (.tuple [.int j0, .int j1]) = decide (i0 = j0 ∧ i1 = j1) := by simp [PyData.eqv, PyData.eqvAll, Bool.beq_eq_decide_eq]
    rw [e]
    exact q⟩
theorem ne_t2 {d : Addr} {i0 i1 j0 j1 : Int} (h1 : SqT K H a [.int i0, .int i1]) (h2 : SqT K H d [.int j0, .int j1]) (q : Q (.bl (!decide (i0 = j0 ∧ i1 = j1))) H) : rNeG K (.ref a) (.ref d) H Q :=
  .inr ⟨_, _, .tup h1 (.cons (.int _) (.cons (.int _) .nil)), .tup h2 (.cons (.int _) (.cons (.int _) .nil)), by rfl, by rfl, by
    have e : PyData.eqv (.tuple [.int i0, .int i1]) (.tuple [.int j0, .int j1]) = decide (i0 = j0 ∧ i1 = j1) := by simp [PyData.eqv, PyData.eqvAll, Bool.beq_eq_decide_eq]
    rw [e]
    exact q⟩
theorem in_s2 {z s1 s2 : Str} (h : SqT K H a [.str s1, .str s2]) (q : Q (.bl (decide (z = s1) || decide (z = s2))) H) : rIn K false (.str z) (.ref a) H Q := ⟨a, _, rfl, .inr h, rfl, rfl, by
  have e : inV (.str z) [.str s1, .str s2] = (decide (z = s1) || decide (z = s2)) := by
    have e1 : ∀ w : Str, eqV (.str w) (.str z) = decide (z = w) := fun w => by
      show (w == z) = decide (z = w)
      by_cases e : z = w
      · subst e; simp
      · rw [decide_eq_false e]; exact beq_eq_false_iff_ne.mpr (Ne.symm e)
    simp [inV, e1]
  show Q (.bl (if false = true then !inV (.str z) [.str s1, .str s2] else inV (.str z) [.str s1, .str s2])) H
  rw [if_neg Bool.false_ne_true, e]
  exact q⟩
theorem add_tt {d : Addr} {zs : List V} (h1 : SqT K H a xs) (h2 : SqT K H d ys) (n1 : xs ≠ []) (n2 : ys ≠ []) (l : xs.length + ys.length ≤ 1000) (e : xs ++ ys = zs) (q : ∀ p H', H p = none → Kp H H' → H' p = some (.tup zs) → Q (.ref p) H') : rAddG K (.ref a) (.ref d) H Q :=
  .inr (.inr (.inl ⟨a, d, xs, ys, rfl, rfl, h1, h2, n1, sz1000 l, fun e => absurd e n2, fun _ p n => q p _ n (Kp.new n) (by rw [upd_same, e])⟩))
theorem add_ll {d : Addr} (h1 : H a = some (.lst xs)) (h2 : H d = some (.lst ys)) (l : xs.length + ys.length ≤ 1000) (q : ∀ p H', H p = none → Kp H H' → H' p = some (.lst (xs ++ ys)) → Q (.ref p) H') : rAddG K (.ref a) (.ref d) H Q :=
  .inr (.inr (.inr ⟨a, d, xs, ys, rfl, rfl, h1, h2, sz1000 l, fun p e => q p _ e (Kp.new e) upd_same⟩))
theorem sub_ii (q : Q (.int (k - j)) H) : rSubG (.int k) (.int j) H Q := ⟨k, j, rfl, rfl, q⟩
theorem mul_ii (h : IntMulOk k j) (q : Q (.int (k * j)) H) : rMulG (.int k) (.int j) H Q := .inl ⟨k, j, rfl, rfl, h, q⟩
theorem div_ii {m : Nat} (h0 : 0 < j) (h : Bd m j) (l : m < 9000) (q : Q (.int (k / j)) H) : rDivG (.int k) (.int j) H Q := ⟨k, j, rfl, rfl, ⟨by omega, Nat.lt_of_le_of_lt (log_of h) l⟩, by show Q (.int (k.fdiv j)) H; rw [Int.fdiv_eq_ediv_of_nonneg k (by omega)]; exact q⟩
theorem fdiv_ii {m : Nat} (h0 : j ≠ 0) (h : Bd m j) (l : m < 9000) (q : Q (.int (k.fdiv j)) H) : rDivG (.int k) (.int j) H Q := ⟨k, j, rfl, rfl, ⟨h0, Nat.lt_of_le_of_lt (log_of h) l⟩, q⟩
theorem mod_ii (h0 : 0 < j) (q : Q (.int (k % j)) H) : rModG (.int k) (.int j) H Q := ⟨k, j, rfl, rfl, by omega, by show Q (.int (k.fmod j)) H; rw [Int.fmod_eq_emod_of_nonneg k (by omega)]; exact q⟩
theorem fmod_ii (h0 : j ≠ 0) (q : Q (.int (k.fmod j)) H) : rModG (.int k) (.int j) H Q := ⟨k, j, rfl, rfl, h0, q⟩
theorem pow_ii {z : Int} (h : CPow k j) (e : k ^ j.toNat = z) (q : Q (.int z) H) : rPowG (.int k) (.int j) H Q := ⟨k, j, rfl, rfl, h, by show Q (.int (k ^ j.toNat)) H; rw [e]; exact q⟩
theorem neg_i (q : Q (.int (-k)) H) : rNegG (.int k) H Q := ⟨k, rfl, q⟩
theorem lt_ii (q : Q (.bl (decide (k < j))) H) : rLtG (.int k) (.int j) H Q := ⟨k, j, rfl, rfl, q⟩
theorem le_ii (q : Q (.bl (decide (k ≤ j))) H) : rLeG (.int k) (.int j) H Q := ⟨k, j, rfl, rfl, q⟩
theorem gt_ii (q : Q (.bl (decide (j < k))) H) : rGtG (.int k) (.int j) H Q := ⟨k, j, rfl, rfl, q⟩
theorem ge_ii (q : Q (.bl (decide (j ≤ k))) H) : rGeG (.int k) (.int j) H Q := ⟨k, j, rfl, rfl, q⟩
theorem dec_i : decide (V.int k = V.int j) = decide (k = j) := by by_cases e : k = j <;> simp [e]
theorem dec_s {z w : Str} : decide (V.str z = V.str w) = decide (z = w) := by by_cases e : z = w <;> simp [e]
theorem dec_b {f g : Bool} : decide (V.bl f = V.bl g) = decide (f = g) := by by_cases e : f = g <;> simp [e]
theorem eq_ii (q : Q (.bl (decide (k = j))) H) : rEqG K (.int k) (.int j) H Q := .inl ⟨rfl, by rw [dec_i]; exact q⟩
theorem eq_ss {z w : Str} (q : Q (.bl (decide (z = w))) H) : rEqG K (.str z) (.str w) H Q := .inl ⟨rfl, by rw [dec_s]; exact q⟩
theorem eq_bb {f g : Bool} (q : Q (.bl (decide (f = g))) H) : rEqG K (.bl f) (.bl g) H Q := .inl ⟨rfl, by rw [dec_b]; exact q⟩
theorem ne_ii (q : Q (.bl (!decide (k = j))) H) : rNeG K (.int k) (.int j) H Q := .inl ⟨rfl, by rw [dec_i]; exact q⟩
theorem ne_ss {z w : Str} (q : Q (.bl (!decide (z = w))) H) : rNeG K (.str z) (.str w) H Q := .inl ⟨rfl, by rw [dec_s]; exact q⟩
theorem ne_bb {f g : Bool} (q : Q (.bl (!decide (f = g))) H) : rNeG K (.bl f) (.bl g) H Q := .inl ⟨rfl, by rw [dec_b]; exact q⟩
theorem eq_dd {d e : PyData} (h1 : Dp K H x d) (h2 : Dp K H y e) (s1 : SeqAt.shaped d = true) (s2 : SeqAt.shaped e = true) (q : Q (.bl (PyData.eqv d e)) H) : rEqG K x y H Q := .inr ⟨d, e, h1, h2, s1, s2, q⟩
theorem ne_dd {d e : PyData} (h1 : Dp K H x d) (h2 : Dp K H y e) (s1 : SeqAt.shaped d = true) (s2 : SeqAt.shaped e = true) (q : Q (.bl (!PyData.eqv d e)) H) : rNeG K x y H Q := .inr ⟨d, e, h1, h2, s1, s2, q⟩
theorem isN_n (q : Q (.bl (decide (x = .non))) H) : rIsNG x .non H Q := ⟨rfl, q⟩
theorem notN_n (q : Q (.bl (!decide (x = .non))) H) : rNotNG x .non H Q := ⟨rfl, q⟩
theorem abs_i (q : Q (.int ((k.natAbs : Nat) : Int)) H) : rAbsG [.int k] H Q := ⟨k, rfl, by
  have e : (if k < 0 then -k else k) = ((k.natAbs : Nat) : Int) := by split <;> omega
  rw [e]
  exact q⟩
theorem int_i (q : Q (.int k) H) : rIntG [.int k] H Q := .inl ⟨k, rfl, q⟩
theorem int_b (q : Q (.int (if bb then 1 else 0)) H) : rIntG [.bl bb] H Q := .inr ⟨bb, rfl, q⟩
theorem bool_i (q : Q (.bl (decide (k ≠ 0))) H) : rBoolG [.int k] H Q := .inl ⟨k, rfl, by
  have e : (k != 0) = decide (k ≠ 0) := by by_cases h : k = 0 <;> simp [h]
  rw [e]
  exact q⟩
theorem bool_b (q : Q (.bl bb) H) : rBoolG [.bl bb] H Q := .inr ⟨bb, rfl, q⟩
theorem len_l (h : SqL K H a xs) (q : Q (.int xs.length) H) : rLenG K [.ref a] H Q := .inl ⟨a, xs, rfl, .inl h, q⟩
theorem len_t (h : SqT K H a xs) (q : Q (.int xs.length) H) : rLenG K [.ref a] H Q := .inl ⟨a, xs, rfl, .inr h, q⟩
theorem len_s {z : Str} (h : z.length ≤ sizeLine) (q : Q (.int z.length) H) : rLenG K [.str z] H Q := .inr ⟨z, rfl, h, q⟩
theorem list_l (h : SqL K H a xs) (q : ∀ p H', H p = none → Kp H H' → H' p = some (.lst xs) → Q (.ref p) H') : rListG K [.ref a] H Q := ⟨a, xs, rfl, .inl h, fun p e => q p _ e (Kp.new e) upd_same⟩
theorem list_t (h : SqT K H a xs) (q : ∀ p H', H p = none → Kp H H' → H' p = some (.lst xs) → Q (.ref p) H') : rListG K [.ref a] H Q := ⟨a, xs, rfl, .inr h, fun p e => q p _ e (Kp.new e) upd_same⟩
theorem isi_ty {tv : Value} {cn : String} {bo : Bool} (ty : TyX K H x tv) (h : PySem.W.kitOne K tv (.type cn) = some bo) (q : Q (.bl bo) H) : rIsiG K [x, .ty cn] H Q := ⟨x, .ty cn, tv, .type cn, bo, rfl, .ty cn, ty, h, q⟩
theorem isi_cl {tv : Value} {C : Addr} {bo : Bool} (ty : TyX K H x tv) (h : PySem.W.kitOne K tv (.ref C) = some bo) (q : Q (.bl bo) H) : rIsiG K [x, .ref C] H Q := ⟨x, .ref C, tv, .ref C, bo, rfl, .own C, ty, h, q⟩
theorem ix_l (h : SqL K H a xs) (e : atI xs k = some v) (q : Q v H) : rIx K (.ref a) (.int k) H Q := .inl ⟨a, xs, k, v, rfl, rfl, h, e, q⟩
theorem ix_t (h : SqT K H a xs) (e : atI xs k = some v) (q : Q v H) : rIx K (.ref a) (.int k) H Q := .inr (.inl ⟨a, xs, k, v, rfl, rfl, h, e, q⟩)
/-! slices -/
theorem st_sl {rs : V → Option Int → Option Int → Hp → VK → Prop} {t1 t2 : TO} (q : te σ H fun x H1 => t1 σ H1 fun l H2 => t2 σ H2 fun u H3 => rs x l u H3 Q) : tSl rs te t1 t2 σ H Q := q
theorem st_noPart {R : Option Int → Hp → Prop} (q : R none H) : tNoPart σ H R := q
theorem st_part {R : Option Int → Hp → Prop} (q : te σ H fun x H1 => ∃ i, x = .int i ∧ R (some i) H1) : tPart te σ H R := q
theorem st_exint {R : Int → Hp → Prop} (q : R k H) : ∃ i, V.int k = V.int i ∧ R i H := ⟨k, rfl, q⟩
theorem st_exintP {R : Int → Prop} (q : R k) : ∃ i, V.int k = V.int i ∧ R i := ⟨k, rfl, q⟩
theorem sl_l {lo hi : Option Int} (h : SqL K H a xs) (q : ∀ p H', H p = none → Kp H H' → H' p = some (.lst (cutV xs lo hi)) → Q (.ref p) H') : rSlG K (.ref a) lo hi H Q := .inl ⟨a, xs, rfl, h, fun p e => q p _ e (Kp.new e) upd_same⟩
theorem sl_t {lo hi : Option Int} (h : SqT K H a xs) (l : ¬ (HT.sIx xs.length 0 lo = 0 ∧ HT.sIx xs.length xs.length hi = xs.length)) (q : ∀ p H', H p = none → Kp H H' → H' p = some (.tup (cutV xs lo hi)) → Q (.ref p) H') : rSlG K (.ref a) lo hi H Q :=
  .inr (.inl ⟨a, xs, rfl, h, l, fun p e => q p _ e (Kp.new e) upd_same⟩)
/-! statements -/
theorem st_seq (q : t ⟨u ⟨n, r, b, c⟩, r, b, c⟩ σ H) : tSeq t u ⟨n, r, b, c⟩ σ H := q
theorem st_next (q : n σ H) : tNext ⟨n, r, b, c⟩ σ H := q
theorem st_brk (q : b σ H) : tBreak ⟨n, r, b, c⟩ σ H := q
theorem st_cont (q : c σ H) : tCont ⟨n, r, b, c⟩ σ H := q
theorem st_drop (q : te σ H fun _ H1 => n σ H1) : tDrop te ⟨n, r, b, c⟩ σ H := q
theorem st_ret (q : te σ H r) : tRet te ⟨n, r, b, c⟩ σ H := q
theorem st_retN (q : r .non H) : tRetN ⟨n, r, b, c⟩ σ H := q
theorem st_ifS (q : tt σ H fun e H1 => if e = true then t ⟨n, r, b, c⟩ σ H1 else u ⟨n, r, b, c⟩ σ H1) : tIfS tt t u ⟨n, r, b, c⟩ σ H := q
theorem st_asg {g : TG} (q : te σ H fun x H1 => g x σ H1 n) : tAsg te g ⟨n, r, b, c⟩ σ H := q
theorem st_gname (e : σ.set i (some v) = σ') (q : n σ' H) : gName i v σ H n := by subst e; exact q
theorem st_par {i j : Nat} (q : tl σ H fun vs H1 => ParK i j vs σ H1 n) : tPar i j tl ⟨n, r, b, c⟩ σ H := q
theorem st_parK {i j : Nat} (e : (σ.set i (some x)).set j (some y) = σ') (q : n σ' H) : ParK i j [x, y] σ H n := ⟨x, y, rfl, by rw [e]; exact q⟩
theorem st_gtup {m : Nat} {g : TGs} (h : SqT K H a xs) (l : xs.length = m) (q : g xs σ H n) : gTup K m g (.ref a) σ H n := ⟨a, xs, rfl, h, l, q⟩
theorem st_gcons {g : TG} {gs : TGs} (q : g v σ H fun σ' H' => gs xs σ' H' n) : gCons g gs (v :: xs) σ H n := ⟨v, xs, rfl, q⟩
theorem st_gnil (q : n σ H) : gNil [] σ H n := ⟨rfl, q⟩
theorem st_gsub {g : TSet} (q : to σ H fun o H1 => ti σ H1 fun i H2 => g o i v H2 fun H3 => n σ H3) : gSub to ti g v σ H n := q
theorem st_setL {R : Hp → Prop} {m : Nat} (h : H a = some (.lst xs)) (l : ixN xs.length k = some m) (e : xs.set m v = ys) (q : ∀ H', Md a H H' → H' a = some (.lst ys) → R H') : rSetL (.ref a) (.int k) v H R := ⟨a, xs, k, m, rfl, rfl, h, l, q _ (Md.upd h) (by rw [e]; exact upd_same)⟩
theorem st_setfld {f : Str} (q : te σ H fun y H1 => ta σ H1 fun x H2 => SFldK K f x y H2 (n σ)) : sFld K ta te f ⟨n, r, b, c⟩ σ H := q
theorem st_setfldK {C dx : Addr} {f : Str} {fs : List (Str × V)} {R : Hp → Prop} (h : H a = some (.ins C dx fs)) (cl : Cls K C) (na : NoAttr K C f) (l : fs.length < 1000) (q : R (upd H a (.ins C dx (putF f y fs)))) : SFldK K f (.ref a) y H R := ⟨a, C, dx, fs, rfl, h, cl, na, l, q⟩
/-- xs.append(y) -/
theorem st_bm {T : String} {R : V → List V → Hp → VK → Prop} (q : to σ H fun x H1 => BmK K T x H1 (tl σ H1 fun xs H2 => R x xs H2 Q)) : tBM K T R to tl σ H Q := q
theorem bm_list {P : Prop} (h : H a = some (.lst xs)) (q : P) : BmK K "list" (.ref a) H P := ⟨.inl ⟨rfl, _, SqL.of h⟩, q⟩
theorem append_l (h : H a = some (.lst xs)) (l : xs.length < sizeLine) (q : ∀ H', Md a H H' → H' a = some (.lst (xs ++ [v])) → Q .non H') : rAppend (.ref a) [v] H Q := ⟨a, xs, v, rfl, rfl, h, l, q _ (Md.upd h) upd_same⟩
theorem st_never : False → tNever ⟨n, r, b, c⟩ σ H := False.elim
end
end G
namespace G
open PySem PySem.Spec PyProof.Rows L2
section
variable {X : Cx} {x : Str} {pos : Pos} {C : Addr} {T : String}
theorem pe_ty (hg : Gl X x) (hm : X.mg x = none) (hv : bootBuiltins x = some (.type T)) (hn : x ≠ "__name__" := by decide) (hd : (x == ("__debug__" : Str)) = false := by decide) : PE X (.Name x pos) (tC (.ty T)) := pe_bltn hg hm hv rfl hn hd
theorem pe_cl (hg : Gl X x) (hm : X.mg x = some (.ref C)) (hd : (x == ("__debug__" : Str)) = false := by decide) : PE X (.Name x pos) (tC (.ref C)) := pe_glob hg hm rfl hd
end
end G
namespace G
open PySem PySem.Spec PyProof.Rows L2
theorem st_start {N : List Str} {vs : List V} {t : TS} {D : Ends} {σ' : L2.St} {H : Hp} (e : start N vs = σ') (q : t D σ' H) : t D (start N vs) H := by subst e; exact q
end G
namespace G
open PySem PySem.Spec PyProof.Rows L2
section
variable {K : PySem.W.Frag} {σ σ' : L2.St} {H : Hp} {Q : VK} {tt : TT} {ts : TS} {tl : TA} {n : L2.St → Hp → Prop} {r : VK} {b c : L2.St → Hp → Prop}
def WhK (W : Nat → L2.St → Hp → Prop) (m : Nat) (ts : TS) (r : VK) (n : L2.St → Hp → Prop) (σ : L2.St) (H : Hp) : Prop := ∃ N : L2.St → Hp → Prop, (∀ σ' H', N σ' H' → ∃ m', m' < m ∧ W m' σ' H') ∧ ts ⟨N, r, n, N⟩ σ H
/-- while: W at some measure holds at the start; a turn brings it to a lesser one -/
theorem st_while (W : Nat → L2.St → Hp → Prop) (m0 : Nat) (h0 : W m0 σ H) (hs : ∀ m σ H, W m σ H → tt σ H fun e H1 => if e = true then WhK W m ts r n σ H1 else n σ H1) : tWhile tt ts ⟨n, r, b, c⟩ σ H := ⟨W, ⟨m0, h0⟩, fun m σ H w => hs m σ H w⟩
theorem st_whK {W : Nat → L2.St → Hp → Prop} {m : Nat} (q : ts ⟨fun σ' H' => ∃ m', m' < m ∧ W m' σ' H', r, n, fun σ' H' => ∃ m', m' < m ∧ W m' σ' H'⟩ σ H) : WhK W m ts r n σ H := ⟨_, fun _ _ h => h, q⟩
/-- the making of an instance -/
def MakeK (C : Addr) (sp : Sp) (dvs : List V) (E : XK) (vs : List V) (H : Hp) (Q : VK) : Prop := ∀ x dx, H x = none → H dx = none → dx ≠ x → sp (.ref x :: (vs ++ dvs)) (upd (upd H dx (.own x)) x (.ins C dx [])) (fun v H2 => v = .non ∧ Q (.ref x) H2) E
theorem st_mk {C : Addr} {sp : Sp} {dvs : List V} {E : XK} (q : tl σ H fun vs H1 => MakeK C sp dvs E vs H1 Q) : tMake C sp dvs E tl σ H Q := q
theorem st_mkK {C : Addr} {sp : Sp} {dvs : List V} {E : XK} {vs : List V} (q : ∀ x dx H', H x = none → Kp H H' → H' x = some (.ins C dx []) → sp (.ref x :: (vs ++ dvs)) H' (fun v H2 => v = .non ∧ Q (.ref x) H2) E) : MakeK C sp dvs E vs H Q :=
  fun x dx nx nd ne => q x dx _ nx (fun b o e => by rw [upd_ne (ne_of_none e nx), upd_ne (ne_of_none e nd)]; exact e) upd_same
/-- all but x is kept, x was new: all is kept -/
theorem Kp.init {x : Addr} {H H1 H2 : Hp} (n : H x = none) (k : Kp H H1) (j : ∀ c o, c ≠ x → H1 c = some o → H2 c = some o) : Kp H H2 := fun c o e => j c o (ne_of_none e n) (k c o e)
/-! for: the walked thing -/
def ForK (J : It) (g : TG) (ts : TS) (n : L2.St → Hp → Prop) (r : VK) (b c : L2.St → Hp → Prop) (σ : L2.St) (H1 : Hp) : Prop := ∃ W : Nat → Nat → L2.St → Hp → Prop, (∃ m, W 0 m σ H1) ∧ ∀ i m σ H, W i m σ H →
  (J.stop i H ∧ n σ H) ∨ (J.go i H ∧ ∃ N : L2.St → Hp → Prop, (∀ σ' H', N σ' H' → ∃ m', m' < m ∧ W (i + 1) m' σ' H') ∧ ∀ x H', J.yld i H x H' → g x σ H' fun σ2 H2 => ts ⟨N, r, n, N⟩ σ2 H2)
def ILK (K : PySem.W.Frag) (x : V) (H : Hp) (R : It → Hp → Prop) : Prop := ∃ a, x = .ref a ∧ (∃ xs, SqL K H a xs) ∧ R (Itl K a) H
def R1K (vs : List V) (H : Hp) (R : It → Hp → Prop) : Prop := ∃ j : Int, vs = [.int j] ∧ -(2 ^ 62) ≤ j ∧ j < 2 ^ 62 ∧ R (Itr 0 j.toNat) H
def R2K (vs : List V) (H : Hp) (R : It → Hp → Prop) : Prop := ∃ i j : Int, vs = [.int i, .int j] ∧ (-(2 ^ 62) ≤ i ∧ i < 2 ^ 62 ∧ -(2 ^ 62) ≤ j ∧ j < 2 ^ 62) ∧ R (Itr i (j - i).toNat) H
theorem st_for {wi : TI} {g : TG} (q : wi σ H fun J H1 => ForK J g ts n r b c σ H1) : tFor wi g ts ⟨n, r, b, c⟩ σ H := q
theorem st_iList {te : TE} {R : It → Hp → Prop} (q : te σ H fun x H1 => ILK K x H1 R) : iList K te σ H R := q
theorem st_iLK {a : Addr} {xs : List V} {R : It → Hp → Prop} (h : SqL K H a xs) (q : R (Itl K a) H) : ILK K (.ref a) H R := ⟨a, rfl, ⟨xs, h⟩, q⟩
theorem st_r1 {R : It → Hp → Prop} (q : tl σ H fun vs H1 => R1K vs H1 R) : iRng1 tl σ H R := q
theorem st_r2 {R : It → Hp → Prop} (q : tl σ H fun vs H1 => R2K vs H1 R) : iRng2 tl σ H R := q
theorem st_r1K {j : Int} {R : It → Hp → Prop} (h1 : -(2 ^ 62) ≤ j) (h2 : j < 2 ^ 62) (q : R (Itr 0 j.toNat) H) : R1K [.int j] H R := ⟨j, rfl, h1, h2, q⟩
theorem st_r2K {i j : Int} {R : It → Hp → Prop} (h : -(2 ^ 62) ≤ i ∧ i < 2 ^ 62 ∧ -(2 ^ 62) ≤ j ∧ j < 2 ^ 62) (q : R (Itr i (j - i).toNat) H) : R2K [.int i, .int j] H R := ⟨i, j, rfl, h, q⟩
theorem for_rng {lo : Int} {m : Nat} {g : TG} (Pv : Nat → L2.St → Hp → Prop) (h0 : Pv 0 σ H)
    (hs : ∀ i σ H, i < m → Pv i σ H → g (.int (lo + i)) σ H fun σ2 H2 => ts ⟨Pv (i + 1), r, n, Pv (i + 1)⟩ σ2 H2) (hd : ∀ σ H, Pv m σ H → n σ H) : ForK (Itr lo m) g ts n r b c σ H :=
  for_range (D := ⟨n, r, b, c⟩) Pv h0 hs hd
theorem for_lst {a : Addr} {xs : List V} {g : TG} (Pv : Nat → L2.St → Hp → Prop) (h0 : Pv 0 σ H) (hl : ∀ i σ H, i ≤ xs.length → Pv i σ H → SqL K H a xs)
    (hs : ∀ i x σ H, xs[i]? = some x → Pv i σ H → g x σ H fun σ2 H2 => ts ⟨Pv (i + 1), r, n, Pv (i + 1)⟩ σ2 H2) (hd : ∀ σ H, Pv xs.length σ H → n σ H) : ForK (Itl K a) g ts n r b c σ H :=
  for_list (D := ⟨n, r, b, c⟩) Pv h0 hl hs hd
end
end G
namespace G
open PySem PySem.Spec PyProof.Rows L2
/-- the instance at x was changed -/
def Mi (x : Addr) (H H' : Hp) : Prop := ∀ b o, b ≠ x → H b = some o → H' b = some o
theorem Mi.at {x a : Addr} {H H' : Hp} {o : HO} (k : Mi x H H') (h : H a = some o) (n : a ≠ x) : H' a = some o := k a o n h
theorem Mi.trans {x : Addr} {H H1 H2 : Hp} (j : Mi x H H1) (k : Mi x H1 H2) : Mi x H H2 := fun b o n h => k b o n (j b o n h)
theorem Mi.of_kp {x : Addr} {H H1 : Hp} (j : Kp H H1) : Mi x H H1 := fun b o _ h => j b o h
theorem Kp.mi {x : Addr} {H H1 H2 : Hp} (n : H x = none) (k : Kp H H1) (j : Mi x H1 H2) : Kp H H2 := fun c o e => j c o (ne_of_none e n) (k c o e)
theorem st_setfldM {K : PySem.W.Frag} {C dx a : Addr} {f : Str} {fs : List (Str × V)} {H : Hp} {y : V} {R : Hp → Prop} (h : H a = some (.ins C dx fs)) (cl : Cls K C) (na : NoAttr K C f) (l : fs.length < 1000) (q : ∀ H', Mi a H H' → H' a = some (.ins C dx (putF f y fs)) → R H') : SFldK K f (.ref a) y H R :=
  st_setfldK h cl na l (q _ (fun b o n e => by rw [upd_ne n]; exact e) upd_same)
end G
namespace G
open PySem PySem.Spec PyProof.Rows L2
/-- the dict at p was changed -/
structure MD (p : Addr) (H H' : Hp) : Prop where
  was : ∃ kvs, H p = some (.dK kvs)
  kp : ∀ b o, b ≠ p → H b = some o → H' b = some o
section
variable {K : PySem.W.Frag} {H H' : Hp} {p a : Addr} {xs : List V} {C dx : Addr} {fs : List (Str × V)} {o : HO} {Q : VK} {σ : L2.St}
theorem MD.at (k : MD p H H') (h : H a = some o) (n : H a = some o → a ≠ p) : H' a = some o := k.kp a _ (n h) h
theorem MD.atN {H0 : Hp} (k : MD p H H') (n : H0 p = none) (h0 : H0 a = some o) (h : H a = some o) : H' a = some o := k.kp a _ (ne_of_none h0 n) h
theorem MD.ins (k : MD p H H') (h : H a = some (.ins C dx fs)) : H' a = some (.ins C dx fs) := by
  obtain ⟨zs, e⟩ := k.was
  exact k.kp a _ (ne_of h e (fun z => by cases z)) h
theorem MD.tup (k : MD p H H') (h : H a = some (.tup xs)) : H' a = some (.tup xs) := by
  obtain ⟨zs, e⟩ := k.was
  exact k.kp a _ (ne_of h e (fun z => by cases z)) h
theorem MD.lst (k : MD p H H') (h : H a = some (.lst xs)) : H' a = some (.lst xs) := by
  obtain ⟨zs, e⟩ := k.was
  exact k.kp a _ (ne_of h e (fun z => by cases z)) h
theorem Kp.MD {H1 H2 : Hp} (n : H p = none) (k : Kp H H1) (j : MD p H1 H2) : Kp H H2 := fun c o e => j.kp c o (ne_of_none e n) (k c o e)
/-- a dict display -/
def PairsK (trs : List (TE × TE)) (σ : L2.St) (H : Hp) (R : List (V × V) → Hp → Prop) : Prop := tPairs trs σ H R
def DispK (p : Addr) (ps : List (V × V)) (H : Hp) (Q : VK) : Prop := H p = some (.dK []) ∧ ∃ kvs : List (Key × V), ps = kvs.map (fun kv => (kV kv.1, kv.2)) ∧ kvs.length ≤ 15 ∧ Q (.ref p) (upd H p (.dK (mergeK [] kvs)))
theorem st_disp {trs : List (TE × TE)} (q : ∀ p H1, H p = none → Kp H H1 → H1 p = some (.dK []) → PairsK trs σ H1 fun ps H2 => DispK p ps H2 Q) : tDisp trs σ H Q := fun p e => q p _ e (Kp.new e) upd_same
theorem st_pairsN {R : List (V × V) → Hp → Prop} (q : R [] H) : PairsK [] σ H R := q
theorem st_pairsC {tk tv : TE} {r : List (TE × TE)} {R : List (V × V) → Hp → Prop} (q : tk σ H fun x H1 => tv σ H1 fun y H2 => PairsK r σ H2 fun ps H3 => R ((x, y) :: ps) H3) : PairsK ((tk, tv) :: r) σ H R := q
theorem st_dispS {zs : List (Str × V)} {ps : List (V × V)} (h : H p = some (.dK [])) (e : ps = zs.map fun z => (V.str z.1, z.2)) (l : zs.length ≤ 15) (q : ∀ H1, MD p H H1 → H1 p = some (.dK (mergeK [] (zs.map fun z => ((.inr z.1 : Key), z.2)))) → Q (.ref p) H1) : DispK p ps H Q :=
  ⟨h, zs.map (fun z => ((.inr z.1 : Key), z.2)), by rw [e, List.map_map]; rfl, by rw [List.length_map]; exact l, q _ ⟨⟨_, h⟩, fun b o n k => by rw [upd_ne n]; exact k⟩ upd_same⟩
theorem st_disp3 {s1 s2 s3 : Str} {v1 v2 v3 : V} (h : H p = some (.dK [])) (q : ∀ H1, MD p H H1 → H1 p = some (.dK (mergeK [] [(.inr s1, v1), (.inr s2, v2), (.inr s3, v3)])) → Q (.ref p) H1) : DispK p [(.str s1, v1), (.str s2, v2), (.str s3, v3)] H Q :=
  st_dispS (zs := [(s1, v1), (s2, v2), (s3, v3)]) h rfl (Nat.le_of_ble_eq_true rfl) q
/-- d.get(k, x) -/
def DgK (x : V) (H : Hp) (R : Addr → Prop) : Prop := ∃ a, x = .ref a ∧ IsD H a ∧ R a
def DgR (a : Addr) (y z : V) (H : Hp) (Q : VK) : Prop := ∃ o, DGet H a y o ∧ Q (o.getD z) H
theorem st_dget2 {td ty tx : TE} (q : td σ H fun x H1 => DgK x H1 fun a => ty σ H1 fun y H2 => tx σ H2 fun z H3 => DgR a y z H3 Q) : tDGet2 td ty tx σ H Q := q
theorem st_dgK {kvs : List (Key × V)} {R : Addr → Prop} (h : H a = some (.dK kvs)) (q : R a) : DgK (.ref a) H R := ⟨a, rfl, .inl ⟨kvs, .inl h⟩, q⟩
theorem st_dgS {kvs : List (Key × V)} {s : Str} {z v : V} (h : H a = some (.dK kvs)) (e : (valV kvs (.inr s)).getD z = v) (q : Q v H) : DgR a (.str s) z H Q := ⟨_, .inl ⟨kvs, .inr s, .inl h, rfl, rfl⟩, by rw [e]; exact q⟩
theorem st_dgSs {kvs : List (Key × V)} {s : Str} {z v : V} (h : H a = some (.dK kvs)) (e : valV kvs (.inr s) = some v) (q : Q v H) : DgR a (.str s) z H Q := st_dgS h (by rw [e]; rfl) q
theorem st_dgSn {kvs : List (Key × V)} {s : Str} {z : V} (h : H a = some (.dK kvs)) (e : valV kvs (.inr s) = none) (q : Q z H) : DgR a (.str s) z H Q := st_dgS h (by rw [e]; rfl) q
theorem eq_l2b {d : Addr} {i0 i1 j0 j1 : Bool} (h1 : SqL K H a [.bl i0, .bl i1]) (h2 : SqL K H d [.bl j0, .bl j1]) (q : Q (.bl (decide (i0 = j0 ∧ i1 = j1))) H) : rEqG K (.ref a) (.ref d) H Q :=
  .inr ⟨_, _, .lst h1 (.cons (.bl _) (.cons (.bl _) .nil)), .lst h2 (.cons (.bl _) (.cons (.bl _) .nil)), by rfl, by rfl, by
    have e : PyData.eqv (.list [.bool i0, .bool i1]) (.list [.bool j0, .bool j1]) = decide (i0 = j0 ∧ i1 = j1) := by cases i0 <;> cases i1 <;> cases j0 <;> cases j1 <;> rfl
    rw [e]
    exact q⟩
end
theorem one_units {k : Nat} {A : Around} (r : RoomG k A) : A.units + 1 < cLine := by have := r.units; omega
/-- all written by keywords but the first n: every parameter is written -/
theorem kb0_of {K : PySem.W.Frag} {x qual : Str} {params : Arguments} {body : List Stmt} {scope : Scope} {kws : List (Str × V)} {f : Addr} {fd : FuncData} (F : FunD K x qual params body scope [] kws f fd) {n : Nat} {ps ks : List Str}
    (hn : ps.length = n + ks.length)
    (h : ∀ (kV doc pm : Value) (an : Option Addr) (cdv ct : Value) (us ws : List Value), us.length = n → ws.length = ks.length → bindArgs (PySem.W.fnOf x qual params body scope .none kV doc pm an cdv ct) ⟨us, ks.zip ws⟩ = pure (ps.zip (us ++ ws))) : KB0 K fd n ps ks id id := by
  obtain ⟨oc, od, dV, kV, doc, pm, an, cdv, ct, osl, rfl, lk, hcd, hD, hK⟩ := F.ex
  rcases hD with ⟨_, rfl⟩ | ⟨e, _⟩
  · exact ⟨fun s us ws _ hu hl => .of_eq (h kV doc pm an cdv ct us ws hu (by rw [List.length_append, hu] at hl; exact (by simp only [id_eq] at hl; omega))), fun r => r⟩
  · exact absurd rfl e
end G
namespace G
open PySem PySem.Spec PySem.Calls PyProof.Rows L2
/-- the law's own call, by the promise of its def -/
theorem law_callG {P : Program} {w : World} {K : PySem.W.Frag} {mg mb : Str → Option Value} {CX : CXT} {k : Nat} {u a : Addr} {fd : FuncData} {x : Str} {sp : Sp} {s : Shared} {vs : List Value} {ns : List Int}
    (KX : K.In s.heap) (gl : s.heap.Ns mainGlobals mg) (bl : s.heap.Ns builtinsNs mb) (bb : ∀ x : Str, x ≠ "__name__" → mb x = bootBuiltins x) (lim : s.heap.NoLimit) (hg : s.gens = #[]) (ha : s.heap.get? a = some { cls := .type "list", data := .seq vs.toArray })
    (hi : IntsAre vs ns) (hl : ns.length ≤ sizeLine) (hr : Room k callerA) (F : ∀ base : Heap, K.In base → base.Ns mainGlobals mg → FnG P w K mg base CX k u fd [x] sp) (hb : ∀ (s : Shared) (v : Value), BindsTo s fd ⟨[v], []⟩ [(x, v)])
    (hsp : ∀ H : Hp, Only H → SqL K H a (ns.map V.int) → sp [.ref a] H (fun v _ => v = .bl true) fun _ _ _ => False) (hCX : ∀ H e s', CX [] H s (fun _ _ _ => False) e s' → False) :
    codeAny (model P w) callerA (.call (.ref u) ⟨[.ref a], []⟩) (fun r s' => r = .ok (.ret (.bool true)) ∧ OldK s.heap s'.heap ∧ s'.os = s.os ∧ AllBare s'.gens) s := by
  have rv := vals_ints hi
  obtain ⟨H, key⟩ : ∃ H : Hp, ∀ b, (H b = none ∧ (b = a → K.lookup a ≠ none)) ∨ (b = a ∧ K.lookup a = none ∧ H b = some (.frz { cls := .type "list", data := .seq vs.toArray } (.lst (ns.map V.int)))) :=
    ⟨fun b => if b = a ∧ K.lookup a = none then some (.frz { cls := .type "list", data := .seq vs.toArray } (.lst (ns.map V.int))) else none, fun b => by
      by_cases c : b = a ∧ K.lookup a = none
      · exact .inr ⟨c.1, c.2, if_pos c⟩
      · exact .inl ⟨if_neg c, fun e z => c ⟨e, z⟩⟩⟩
  have only : Only H := fun b => (key b).elim (fun h => .inl h.1) fun ⟨_, _, h⟩ => .inr ⟨_, _, h⟩
  have sq : SqL K H a (ns.map V.int) := by
    rcases key a with h | ⟨_, _, h⟩
    · cases q : K.lookup a with
      | none => exact absurd q (h.2 rfl)
      | some o =>
        have e := KX a o q
        rw [ha] at e
        cases e
        exact .inr ⟨_, vs.toArray, _, q, rfl, rfl, rfl, by rw [List.size_toArray, hi.length]; exact hl, by simpa using rv⟩
    · exact .inl (.inr ⟨_, h⟩)
  have ns' : ∀ {b : Addr} {m : Str → Option Value}, s.heap.Ns b m → (hidT s.heap H).Ns b m := by
    rintro b m ⟨o, es, ep, e, d, r⟩
    refine ⟨o, es, ep, hidT_get e ?_, d, r⟩
    rcases key b with h | ⟨rfl, _, _⟩
    · exact h.1
    · rw [ha] at e
      cases e
      cases (show Data.seq vs.toArray _ = Data.dict es ep from d)
  have inB : K.In (hidT s.heap H) := fun b o e => hidT_get (KX b o e) (by
    rcases key b with h | ⟨rfl, n, _⟩
    · exact h.1
    · rw [n] at e
      cases e)
  have hok : HOk P w H s.heap := fun b z e => by
    rcases key b with h | ⟨rfl, _, h⟩
    · rw [h.1] at e
      cases e
    · rw [h] at e
      cases e
      exact ⟨ha, by rw [List.length_map]; exact hl, vs, _, rv, ha⟩
  have md : Mod K mg (hidT s.heap H) := ⟨inB, ns' gl, ⟨mb, ns' bl, bb⟩, lim.elim fun m h => ⟨m, ns' h.1, h.2⟩⟩
  have env : Env0 P w K mg (hidT s.heap H) callerA [] s H := ⟨rfl, md, fun _ _ e => of_hidT e, Nat.le_of_eq (hidT_size _ _), trivial, (fun _ z => nomatch z), hok, .of_eq hg⟩
  refine codeAny_mono ((F _ inB (ns' gl)).run (us := [.ref a]) (vs := [.ref a]) ⟨hr, rfl⟩ env (hb s (.ref a)) (.cons rfl .nil) (hsp H only sq)) fun r s' h => ?_
  match r, h with
  | .error e, h => exact (hCX H e s' h).elim
  | .ok (.ret z), h =>
    obtain ⟨v, H', os, bare, un, hok', r', q⟩ := h
    cases (show v = .bl true from q)
    cases (show z = Value.bool true from r')
    refine ⟨rfl, OldK.of_keep fun b o e => ?_, os, bare⟩
    rcases key b with h | ⟨_, _, h⟩
    · exact un.keep b o e h.1 (fun z => nomatch z) (fun z => nomatch z)
    · have e1 := (hok b _ h).1
      have e2 := (hok' b _ (un.frzs b _ _ h)).1
      rw [e] at e1
      cases e1
      exact e2
/-- the goal that the head leaves, from the law's promise -/
theorem walk_ofG {l : PySem.W.OpenLaw} {n k : Nat} {q : Program} {loose : List Str} {XP : (Str → Option Value) → Heap → Prop} {YP : World → Heap → Prop} {d : DefRec} {CX : CXT} {x : Str} (hn : l.most = some n) (hz : n ≤ sizeLine) (hd : d.params.defaults = []) (hr : Room k callerA)
    (F : ∀ (w : World) (mg : Str → Option Value) (u : Addr) (h : Heap), YP w h → h.Ns mainGlobals mg → mg d.name = some (.ref u) → ∃ (K : PySem.W.Frag) (fd : FuncData) (sp : Sp), K.In h ∧ (∀ (s : Shared) (v : Value), BindsTo s fd ⟨[v], []⟩ [(x, v)]) ∧
      (∀ (H : Hp) (a : Addr) (ns : List Int), ns.length ≤ n → Only H → SqL K H a (ns.map V.int) → sp [.ref a] H (fun v _ => v = .bl true) fun _ _ _ => False) ∧ ∀ base : Heap, K.In base → base.Ns mainGlobals mg → FnG l.prog w K mg base CX k u fd [x] sp)
    (hCX : ∀ (H : Hp) (s : Shared) (e : Value) (s' : Shared), CX [] H s (fun _ _ _ => False) e s' → False) : PySem.W.WalkO q loose XP YP l.row.toRowW d [] (fun f vs => PySem.call f vs) :=
  Att.attach_call hn hd fun w _ _ mg _ u _ _ _ _ _ _ ns N Y _ _ _ hmg hobj hints hlen hg => by
    obtain ⟨K, fd, sp, KX, hb, hsp, hF⟩ := F w mg u _ Y N.T.g hmg
    exact law_callG KX N.T.g N.T.b N.T.builtins N.T.nolimit hg hobj hints (Nat.le_trans hlen hz) hr hF hb (fun H hO hS => hsp H _ ns hlen hO hS) fun H e s' => hCX H _ e s'
end G
namespace G
open PySem PySem.Spec PySem.Calls PyProof.Rows L2
/-! ### repr of data -/
theorem repr_reads {prog : Program} {w : World} {A : Around} {E : Value → Shared → Prop} {s : Shared} {Q : Value → Shared → Prop} {v : Value} {d : PyData} {as : List Addr} (r : Reads s.heap v d as) (hs : d.showable = true) (nd : d.hasDict = false) (hz : d.shown.length ≤ sizeLine)
    (hg : A.guards = some []) (hu : A.units + 1 + d.depth < cLine) (hQ : ∀ h' u tk, (∀ b o, s.heap.get? b = some o → h'.get? b = some o) → Q (.str d.shown u) { s with heap := h', toks := tk }) : wpAny (model prog w) A (call (.builtin "repr") [v]) Q E s := by
  cases v with
  | ref a => exact repr_of_reads' r hs (fun z => by rw [nd] at z; cases z) hg (by omega) (fun _ _ e => e) (fun h' u tk k => hQ h' u tk k) hz
  | none =>
    cases r
    exact P.repr_of_none (by simpa only [PyData.shown] using hQ s.heap _ _ fun _ _ e => e)
  | bool b =>
    cases r
    exact P.repr_of_bool (by simpa only [PyData.shown] using hQ s.heap _ _ fun _ _ e => e)
  | int i t =>
    cases r
    exact P.repr_of_int (by simpa [PyData.showable] using hs) (by simpa only [PyData.shown] using hQ s.heap _ _ fun _ _ e => e)
  | str x t =>
    cases r
    exact P.repr_of_str (by simpa only [PyData.shown] using hQ s.heap _ _ fun _ _ e => e) (by simpa only [PyData.shown] using hz)
  | _ => nomatch r
section
variable {X : Cx} {k : Nat} {H : Hp} {x : V} {Q : VK}
/-- repr(x), x data -/
def rReprG (K : PySem.W.Frag) : List V → Hp → VK → Prop := fun xs H Q => ∃ x d, xs = [x] ∧ Dp K H x d ∧ d.showable = true ∧ d.hasDict = false ∧ d.shown.length ≤ sizeLine ∧ d.depth ≤ 50 ∧ Q (.str d.shown) H
theorem call_reprG (hr : RoomG k X.A) : CallR X (.builtin "repr") (rReprG X.K) := by
  intro pins s σ H xs us Q I r h
  obtain ⟨x, d, rfl, dp, hs, nd, hz, hd, q⟩ := h
  obtain ⟨u, rfl, ru⟩ := vals1 r
  obtain ⟨as, rd⟩ := Dp.reads I d x u dp ru
  exact repr_reads rd hs nd hz hr.gs (by have := hr.units; omega) fun h' t tk k => ⟨.str _, H, I.kept k, ⟨t, rfl⟩, q⟩
end
end G
namespace G
open PySem PySem.Spec PySem.Calls PyProof.Rows PySem.W
/-! ### arithmetic that an own class defines: on the class's own things, with an int behind, with an int ahead -/
section
variable {prog : Program} {w : World} {A : Around} {E : Value → Shared → Prop} {s : Shared} {K : PySem.W.Frag} {x C L f f' : Addr} {h₀ : Heap} {m : Str → Option Value} {ox : Obj} {od : Option Obj} {nm T : String}
theorem intB_declines {M : Model} {n : String} {fi : Int → Int → Sem PySem.Fin} {a : Int} {t : Tok} {Q : PySem.Fin → Shared → Prop} (hx : s.heap.get? x = some ox) (hd : ox.data = .plain) (h : Q (.done (.ret .notImplemented)) s) :
    wpAny M A (PySem.Builtin.Int.intBinary n fi false ⟨[.int a t, .ref x], []⟩) Q E s := by
  obtain ⟨hp, g, d, tk, os⟩ := s
  unfold PySem.Builtin.Int.intBinary
  wp_walk
  rw [hd]
  wp_walk
  exact h
theorem mul_declines {M : Model} {a : Int} {t : Tok} {Q : PySem.Fin → Shared → Prop} (hx : s.heap.get? x = some ox) (hd : ox.data = .plain) (h : Q (.done (.ret .notImplemented)) s) : wpAny M A (Builtin.«int.__mul__» ⟨[.int a t, .ref x], []⟩) Q E s := intB_declines hx hd h
/-- what stands in a class's place for an operator -/
structure OpB (K : PySem.W.Frag) (C : Addr) (nm : String) (f : Addr) : Prop where
  first : selfFirst K C = true
  at_ : findIn K (.ref C) (PySem.dunder nm) = some (some (.ref f))
  fn : isFn K (.ref f) = true
  refl : ∃ rc, findIn K (.ref C) (dunderR nm) = some rc ∧ (rc = none ∨ ∃ g : Addr, rc = some (.ref g))
/-- no in-place def -/
structure NoI (K : PySem.W.Frag) (C : Addr) (nm : String) : Prop where
  ex : ∃ cd, clsIn K C = some cd ∧ cd.mro = [.ref C, .type "object"]
  no : findIn K (.ref C) (dunderI nm) = some none
  noO : findIn K (.type "object") (dunderI nm) = some none
theorem noFillI {M : Model} {h : Heap} {add : Bool} (X : K.In h) (n : NoI K C nm) : Looks M h (fillsInplaceSlot (.ref C) nm add) false := by
  intro A Q E s k q
  obtain ⟨cd, hcd, hm⟩ := n.ex
  have lm : Looks M h (mroOf (.ref C)) cd.mro := (looks_clsIn X hcd).andThen (f := fun cd => pure cd.mro) .now
  have lm' := lm.keeps k
  obtain ⟨hh, g, d, tt, os⟩ := s
  have X' : K.In hh := X.keeps k
  have l1 : Looks M hh (typeLookup (.ref C) (dunderI nm)) none := looks_findIn X' n.no
  have l2 : Looks M hh (typeLookup (.type "object") (dunderI nm)) none := looks_findIn X' n.noO
  unfold fillsInplaceSlot
  refine wpAny_bind (lm'.at ?_)
  rw [hm]
  repeat lk
  exact q
theorem bin1_same {b : Value} {Q : Value → Shared → Prop} (X : K.In s.heap) (I : InstAt s.heap x ox C od) (B : OpB K C nm f) (hb : Looks (model prog w) s.heap (typeOf b) (.ref C)) (h : wpAny (model prog w) A (call (.ref f) [.ref x, b]) (PySem.W.CmpBack Q) E s) :
    wpAny (model prog w) A (binaryOp1 nm (.ref x) b) (fun r s' => ∃ v, r = some v ∧ Q v s') E s := by
  obtain ⟨cd, rest, hcd, hm⟩ := ksp_first B.first
  have one := ksp_try X I B.at_ B.fn h
  obtain ⟨hh, g, d, tt, os⟩ := s
  have l1 : Looks (model prog w) hh (typeOf (.ref x)) (.ref C) := I.type
  have l2 : Looks (model prog w) hh (typeOf b) (.ref C) := hb
  have l3 : Looks (model prog w) hh (fillsNumberSlot (.ref C) nm) true := fills_K X hcd hm B.at_
  unfold binaryOp1
  refine wpAny_bind (l1.at (wpAny_bind (l2.at (wpAny_bind (l3.at ?_)))))
  simp only [beq_self_eq_true, if_true, Bool.and_false, Bool.false_eq_true, if_false, Bool.false_and]
  ksp_lk
  refine wpAny_mono one (fun r s' hr => ?_) fun _ _ e => e
  obtain ⟨v, rfl, hq⟩ := hr
  ksp_lk
  exact ⟨v, rfl, hq⟩
theorem bin1_type {b : Value} {fo ro : Option Value} {Q : Value → Shared → Prop} (X : K.In s.heap) (I : InstAt s.heap x ox C od) (B : OpB K C nm f) (hb : typeOf b = pure (.type T)) (h1 : findIn K (.type T) (PySem.dunder nm) = some fo) (h2 : findIn K (.type T) (dunderR nm) = some ro)
    (hsub : subIn K (.type T) (.ref C) = some false) (h : wpAny (model prog w) A (call (.ref f) [.ref x, b]) (PySem.W.CmpBack Q) E s) : wpAny (model prog w) A (binaryOp1 nm (.ref x) b) (fun r s' => ∃ v, r = some v ∧ Q v s') E s := by
  obtain ⟨cd, rest, hcd, hm⟩ := ksp_first B.first
  obtain ⟨rc, hr, hp⟩ := B.refl
  have one := ksp_try X I B.at_ B.fn h
  obtain ⟨hh, g, d, tt, os⟩ := s
  have l1 : Looks (model prog w) hh (typeOf (.ref x)) (.ref C) := I.type
  have l2 : Looks (model prog w) hh (typeOf b) (.type T) := Looks.of_pure hb
  have l3 : Looks (model prog w) hh (fillsNumberSlot (.ref C) nm) true := fills_K X hcd hm B.at_
  obtain ⟨right, l4⟩ : ∃ right, Looks (model prog w) hh (fillsNumberSlot (.type T) nm) right := ⟨_, ksp_fillsT X h1 h2⟩
  have l5 : Looks (model prog w) hh (isSubtype (.type T) (.ref C)) false := looks_subIn X hsub
  have l6 : Looks (model prog w) hh (numberSlotInPython (.ref C) nm) true := ksp_inPy X B.at_ hr hp
  have l7 : Looks (model prog w) hh (numberSlotInPython (.type T) nm) false := Looks.of_pure rfl
  have l8 : Looks (model prog w) hh (typeLookup (.type T) (dunderR nm)) ro := looks_findIn X h2
  have ne : (Value.ref C == Value.type T) = false := Bool.eq_false_iff.mpr fun q => by cases beq_iff_eq.mp q
  unfold binaryOp1
  refine wpAny_bind (l1.at (wpAny_bind (l2.at (wpAny_bind (l3.at ?_)))))
  simp only [ne, Bool.false_eq_true, if_false]
  cases right <;>
  · ksp_lk
    refine wpAny_mono one (fun r s' hr => ?_) fun _ _ e => e
    obtain ⟨v, rfl, hq⟩ := hr
    ksp_lk
    exact ⟨v, rfl, hq⟩
/-- int's own def declines -/
def Declines (prog : Program) (w : World) (nm : String) : Prop := ∀ {A : Around} {E : Value → Shared → Prop} {s : Shared} {Q : Option Value → Shared → Prop} {n : Int} {t : Tok} {x : Addr} {ox : Obj}, s.heap.get? x = some ox → ox.data = .plain → Q none s →
  wpAny (model prog w) A (tryMethod (.int n t) (PySem.dunder nm) (.ref x)) Q E s
theorem declines_mul : Declines prog w "mul" := fun {A E s Q n t x ox} hx hd q => by
  unfold tryMethod
  refine wpAny_bind ?_
  generalize hz : PySem.dunder "mul" = z
  refine wpAny_callSpecial?_slot (id := "int.__mul__") (T := "int") (typeIs_int s n t) (by rw [← hz]; exact F.slot_int_mul) ?_
  exact wpAny_call_entry F.slot_int_mul (typeIs_int s n t) F.entry_int_mul (intB_declines hx hd ⟨_, rfl, wpAny_pure q⟩) (F.args_int_mul_2 _ _)
theorem bin1_refl {n : Int} {t : Tok} {Q : Value → Shared → Prop} (X : K.In s.heap) (I : InstAt s.heap x ox C od) (hd : ox.data = .plain) (B : OpB K C nm f) (hr : findIn K (.ref C) (dunderR nm) = some (some (.ref f'))) (hf : isFn K (.ref f') = true)
    (hfill : fillsNumberSlot (.type "int") nm = pure true) (dec : Declines prog w nm) (hsub : subIn K (.ref C) (.type "int") = some false) (h : wpAny (model prog w) A (call (.ref f') [.ref x, .int n t]) (PySem.W.CmpBack Q) E s) :
    wpAny (model prog w) A (binaryOp1 nm (.int n t) (.ref x)) (fun r s' => ∃ v, r = some v ∧ Q v s') E s := by
  obtain ⟨cd, rest, hcd, hm⟩ := ksp_first B.first
  have one := ksp_try X I hr hf h
  have at_ := I.at_
  obtain ⟨hh, g, d, tt, os⟩ := s
  have l1 : Looks (model prog w) hh (typeOf (.int n t)) (.type "int") := Looks.of_pure rfl
  have l2 : Looks (model prog w) hh (typeOf (.ref x)) (.ref C) := I.type
  have l3 : Looks (model prog w) hh (fillsNumberSlot (.type "int") nm) true := Looks.of_pure hfill
  have l4 : Looks (model prog w) hh (fillsNumberSlot (.ref C) nm) true := fills_K X hcd hm B.at_
  have l5 : Looks (model prog w) hh (isSubtype (.ref C) (.type "int")) false := looks_subIn X hsub
  have l6 : Looks (model prog w) hh (numberSlotInPython (.type "int") nm) false := Looks.of_pure rfl
  have ne : (Value.type "int" == Value.ref C) = false := Bool.eq_false_iff.mpr fun q => by cases beq_iff_eq.mp q
  unfold binaryOp1
  refine wpAny_bind (l1.at (wpAny_bind (l2.at (wpAny_bind (l3.at ?_)))))
  simp only [ne, Bool.false_eq_true, if_false]
  ksp_lk
  refine dec at_ hd ?_
  ksp_lk
  refine wpAny_mono one (fun r s' hr => ?_) fun _ _ e => e
  obtain ⟨v, rfl, hq⟩ := hr
  ksp_lk
  exact ⟨v, rfl, hq⟩
theorem bin_of {op : Operator} {a b : Value} {Q : Value → Shared → Prop} (h : wpAny (model prog w) A (binaryOp1 op.info.2 a b) (fun r s' => ∃ v, r = some v ∧ Q v s') E s) : wpAny (model prog w) A (binaryOp op a b) Q E s := by
  rcases hi : op.info with ⟨sym, nm'⟩
  rw [hi] at h
  simp only [binaryOp, hi]
  refine wpAny_holding (wpAny_bind (wpAny_mono h (fun r s' hr => ?_) fun _ _ e => e))
  obtain ⟨v, rfl, hq⟩ := hr
  exact wpAny_pure hq
theorem inp_of {op : Operator} {b : Value} {Q : Value → Shared → Prop} (X : K.In s.heap) (I : InstAt s.heap x ox C od) (n : NoI K C op.info.2) (h : wpAny (model prog w) A (binaryOp1 op.info.2 (.ref x) b) (fun r s' => ∃ v, r = some v ∧ Q v s') E s) : wpAny (model prog w) A (inplaceOp op (.ref x) b) Q E s := by
  obtain ⟨hh, g, d, tt, os⟩ := s
  have l1 : Looks (model prog w) hh (typeOf (.ref x)) (.ref C) := I.type
  have l2 : Looks (model prog w) hh (fillsInplaceSlot (.ref C) op.info.2 (op == .Add)) false := noFillI X n
  unfold inplaceOp
  refine wpAny_holding ?_
  refine wpAny_bind (l1.at (wpAny_bind (l2.at ?_)))
  simp only [Bool.false_eq_true, if_false]
  refine wpAny_bind (wpAny_mono h (fun r s' hr => ?_) fun _ _ e => e)
  obtain ⟨v, rfl, hq⟩ := hr
  exact wpAny_pure hq
end
end G
namespace G
open PySem PySem.Spec PySem.Calls PyProof.Rows L2
/-! ### rules for operators that an own class defines -/
section
variable {X : Cx} {CX : CXT} {k : Nat} {C g g' : Addr} {sp : Sp} {E : XK} {fd : FuncData} {ps : List Str} {pins : List (Addr × Obj)} {σ : L2.St} {H : Hp} {s : Shared} {Q : VK} {a dx : Addr} {fs : List (Str × V)}
theorem inst_of (I : Inv X pins σ H s) (ha : H a = some (.ins C dx fs)) : ∃ ox od, ox.data = .plain ∧ PySem.W.InstAt s.heap a ox C od := by
  obtain ⟨mA, O, _⟩ := ins_get I.hok ha
  obtain ⟨od, J, _⟩ := O.look
  exact ⟨_, _, rfl, J⟩
theorem back {P : Value → Shared → Prop} (h : wpAny (model X.prog X.w) X.A (call (.ref g) [.ref a]) (EP X pins σ Q) X.xe s) : wpAny (model X.prog X.w) X.A (call (.ref g) [.ref a]) (EP X pins σ Q) X.xe s := h
/-- x op y, both of the class at C -/
def rBinS (C : Addr) (sp : Sp) (E : XK) : R2 := fun x y H Q => ∃ a dx fs b dy gs, x = .ref a ∧ y = .ref b ∧ H a = some (.ins C dx fs) ∧ H b = some (.ins C dy gs) ∧ sp [x, y] H Q E
/-- x op y, y an int -/
def rBinI (C : Addr) (sp : Sp) (E : XK) : R2 := fun x y H Q => ∃ a dx fs j, x = .ref a ∧ y = .int j ∧ H a = some (.ins C dx fs) ∧ sp [x, y] H Q E
/-- x op y, x an int, y of the class: y's own reflected def -/
def rBinR (C : Addr) (sp : Sp) (E : XK) : R2 := fun x y H Q => ∃ a dx fs j, x = .int j ∧ y = .ref a ∧ H a = some (.ins C dx fs) ∧ sp [y, x] H Q E
structure IntB (K : PySem.W.Frag) (C : Addr) (nm : String) : Prop where
  fo : ∃ o, PySem.W.findIn K (.type "int") (PySem.dunder nm) = some o
  ro : ∃ o, PySem.W.findIn K (.type "int") (dunderR nm) = some o
  sub : PySem.W.subIn K (.type "int") (.ref C) = some false
theorem cmp_end {P : Value → Shared → Prop} {v : Value} {s' : Shared} (h : EP X pins σ Q v s') : PySem.W.CmpBack (EP X pins σ Q) v s' := let ⟨_, _, _, rz, _⟩ := h; SlX.cmpback rz h
theorem bin1_S {op : Operator} (B : OpB X.K C op.info.2 g) (F : FnG X.prog X.w X.K X.mg X.base CX k g fd ps sp) (hr : RoomG k X.A) (hb : Binds X.K fd ps []) (hx : Passes CX X E) :
    OpR X (fun v u => binaryOp op v u) (rBinS C sp E) := by
  intro pins s σ H x y v u Q I rx ry h
  obtain ⟨a, dx, fs, b, dy, gs, rfl, rfl, ha, hb', q⟩ := h
  cases (show v = Value.ref a from rx)
  cases (show u = Value.ref b from ry)
  obtain ⟨ox, od, _, J⟩ := inst_of I ha
  obtain ⟨oy, oe, _, J2⟩ := inst_of I hb'
  exact bin_of (bin1_same I.kIn J B J2.type (thn (run_fnG (us := [.ref a, .ref b]) (vs := [.ref a, .ref b]) F hr hb .nil hx I (.cons rfl (.cons rfl .nil)) q) fun w s' z => cmp_end (P := fun _ _ => True) z))
theorem bin1_I {op : Operator} (B : OpB X.K C op.info.2 g) (J : IntB X.K C op.info.2) (F : FnG X.prog X.w X.K X.mg X.base CX k g fd ps sp) (hr : RoomG k X.A) (hb : Binds X.K fd ps []) (hx : Passes CX X E) :
    OpR X (fun v u => binaryOp op v u) (rBinI C sp E) := by
  intro pins s σ H x y v u Q I rx ry h
  obtain ⟨a, dx, fs, j, rfl, rfl, ha, q⟩ := h
  cases (show v = Value.ref a from rx)
  obtain ⟨t, rfl⟩ := (show ∃ t, u = Value.int j t from ry)
  obtain ⟨ox, od, _, J1⟩ := inst_of I ha
  obtain ⟨_, h1⟩ := J.fo
  obtain ⟨_, h2⟩ := J.ro
  exact bin_of (bin1_type I.kIn J1 B rfl h1 h2 J.sub (thn (run_fnG (us := [.ref a, .int j t]) (vs := [.ref a, .int j]) F hr hb .nil hx I (.cons rfl (.cons ⟨t, rfl⟩ .nil)) q) fun w s' z => cmp_end (P := fun _ _ => True) z))
theorem bin1_R {op : Operator} (B : OpB X.K C op.info.2 g) (r : OwnM X.K C (dunderR op.info.2) g') (fill : fillsNumberSlot (.type "int") op.info.2 = pure true) (dec : Declines X.prog X.w op.info.2) (sub : PySem.W.subIn X.K (.ref C) (.type "int") = some false)
    (F : FnG X.prog X.w X.K X.mg X.base CX k g' fd ps sp) (hr : RoomG k X.A) (hb : Binds X.K fd ps []) (hx : Passes CX X E) : OpR X (fun v u => binaryOp op v u) (rBinR C sp E) := by
  intro pins s σ H x y v u Q I rx ry h
  obtain ⟨a, dx, fs, j, rfl, rfl, ha, q⟩ := h
  cases (show u = Value.ref a from ry)
  obtain ⟨t, rfl⟩ := (show ∃ t, v = Value.int j t from rx)
  obtain ⟨ox, od, hd, J1⟩ := inst_of I ha
  exact bin_of (bin1_refl I.kIn J1 hd B r.at_ r.fn fill dec sub (thn (run_fnG (us := [.ref a, .int j t]) (vs := [.ref a, .int j]) F hr hb .nil hx I (.cons rfl (.cons ⟨t, rfl⟩ .nil)) q) fun w s' z => cmp_end (P := fun _ _ => True) z))
theorem inp_S {op : Operator} (B : OpB X.K C op.info.2 g) (n : NoI X.K C op.info.2) (F : FnG X.prog X.w X.K X.mg X.base CX k g fd ps sp) (hr : RoomG k X.A) (hb : Binds X.K fd ps []) (hx : Passes CX X E) : PIp X op (rBinS C sp E) := by
  intro pins s σ H x y v u Q I rx ry h
  obtain ⟨a, dx, fs, b, dy, gs, rfl, rfl, ha, hb', q⟩ := h
  cases (show v = Value.ref a from rx)
  cases (show u = Value.ref b from ry)
  obtain ⟨ox, od, _, J⟩ := inst_of I ha
  obtain ⟨oy, oe, _, J2⟩ := inst_of I hb'
  exact inp_of I.kIn J n (bin1_same I.kIn J B J2.type (thn (run_fnG (us := [.ref a, .ref b]) (vs := [.ref a, .ref b]) F hr hb .nil hx I (.cons rfl (.cons rfl .nil)) q) fun w s' z => cmp_end (P := fun _ _ => True) z))
theorem inp_I {op : Operator} (B : OpB X.K C op.info.2 g) (J : IntB X.K C op.info.2) (n : NoI X.K C op.info.2) (F : FnG X.prog X.w X.K X.mg X.base CX k g fd ps sp) (hr : RoomG k X.A) (hb : Binds X.K fd ps []) (hx : Passes CX X E) : PIp X op (rBinI C sp E) := by
  intro pins s σ H x y v u Q I rx ry h
  obtain ⟨a, dx, fs, j, rfl, rfl, ha, q⟩ := h
  cases (show v = Value.ref a from rx)
  obtain ⟨t, rfl⟩ := (show ∃ t, u = Value.int j t from ry)
  obtain ⟨ox, od, _, J1⟩ := inst_of I ha
  obtain ⟨_, h1⟩ := J.fo
  obtain ⟨_, h2⟩ := J.ro
  exact inp_of I.kIn J1 n (bin1_type I.kIn J1 B rfl h1 h2 J.sub (thn (run_fnG (us := [.ref a, .int j t]) (vs := [.ref a, .int j]) F hr hb .nil hx I (.cons rfl (.cons ⟨t, rfl⟩ .nil)) q) fun w s' z => cmp_end (P := fun _ _ => True) z))
/-- -x -/
def rNegO (C : Addr) (sp : Sp) (E : XK) : V → Hp → VK → Prop := fun x H Q => ∃ a dx fs, x = .ref a ∧ H a = some (.ins C dx fs) ∧ sp [x] H Q E
theorem un_negO (m : OwnM X.K C "__neg__" g) (F : FnG X.prog X.w X.K X.mg X.base CX k g fd ps sp) (hr : RoomG k X.A) (hb : Binds X.K fd ps []) (hx : Passes CX X E) : UnR X (unaryOp .USub) (rNegO C sp E) := by
  intro pins s σ H x v Q I rx h
  obtain ⟨a, dx, fs, rfl, ha, q⟩ := h
  cases (show v = Value.ref a from rx)
  obtain ⟨ox, od, _, J⟩ := inst_of I ha
  obtain ⟨mm, hF⟩ := I.fr
  exact PySem.W.ksp_neg hF I.ok.mod.kin J m.at_ m.fn (run_fnG (us := [.ref a]) (vs := [.ref a]) F hr hb .nil hx I (.cons rfl .nil) q)
/-- str(x) -/
def rStrO (C : Addr) (sp : Sp) (E : XK) : List V → Hp → VK → Prop := fun xs H Q => ∃ a dx fs, xs = [.ref a] ∧ H a = some (.ins C dx fs) ∧ sp [.ref a] H (fun v H' => ∃ z : Str, v = .str z ∧ Q v H') E
theorem call_strO (m : OwnM X.K C "__str__" g) (F : FnG X.prog X.w X.K X.mg X.base CX k g fd ps sp) (hr : RoomG (k + 2) X.A) (hb : Binds X.K fd ps []) (hx : Passes CX X E) : CallR X (.type "str") (rStrO C sp E) := by
  intro pins s σ H xs us Q I r h
  obtain ⟨a, dx, fs, rfl, ha, q⟩ := h
  obtain ⟨u, rfl, ru⟩ := vals1 r
  cases (show u = Value.ref a from ru)
  obtain ⟨ox, od, _, J⟩ := inst_of I ha
  have run := run_at (args := ⟨[.ref a], []⟩) (ws := [.ref a]) (vs := [.ref a]) F (hr.in1).in1 I.env0.in1.in1 hx I (hb s [.ref a] I.kIn (by have l := F.len q; exact l)) (.cons rfl .nil) q
  refine PySem.W.kso_call (by have := hr.units; show X.A.units + 1 + 1 < cLine; omega) I.kIn J m.at_ m.fn (wpAny_mono (wp_er run) (fun v s' z => ?_) fun _ _ e => e)
  obtain ⟨w, H', I', rw', z, ez, qz⟩ := z
  subst ez
  obtain ⟨t, e⟩ := (show ∃ t, v = Value.str z t from rw')
  subst e
  exact ⟨.str z, H', I', ⟨t, rfl⟩, qz⟩
/-- bool(x) -/
def rBoolO (C : Addr) (sp : Sp) (E : XK) : List V → Hp → VK → Prop := fun xs H Q => ∃ a dx fs, xs = [.ref a] ∧ H a = some (.ins C dx fs) ∧ sp [.ref a] H (fun v H' => ∃ b : Bool, v = .bl b ∧ Q v H') E
theorem call_boolO (m : OwnM X.K C "__bool__" g) (F : FnG X.prog X.w X.K X.mg X.base CX k g fd ps sp) (hr : RoomG (k + 2) X.A) (hb : Binds X.K fd ps []) (hx : Passes CX X E) : CallR X (.type "bool") (rBoolO C sp E) := by
  intro pins s σ H xs us Q I r h
  obtain ⟨a, dx, fs, rfl, ha, q⟩ := h
  obtain ⟨u, rfl, ru⟩ := vals1 r
  cases (show u = Value.ref a from ru)
  obtain ⟨ox, od, _, J⟩ := inst_of I ha
  obtain ⟨mm, hF⟩ := I.fr
  have run := run_at (args := ⟨[.ref a], []⟩) (ws := [.ref a]) (vs := [.ref a]) F (hr.in1).in1 I.env0.in1.in1 hx I (hb s [.ref a] I.kIn (by have l := F.len q; exact l)) (.cons rfl .nil) q
  have tr : wpAny (model X.prog X.w) X.A.in1.in1 (truthy (.ref a)) (fun b s' => EP X pins σ Q (.bool b) s') X.xe s := PySem.W.truthy_K hF I.ok.mod.kin J m.at_ m.fn (wpAny_mono (wp_er run) (fun v s' z => by
    obtain ⟨w, H', I', rw', b, ez, qz⟩ := z
    subst ez
    cases (show v = Value.bool b from rw')
    exact ⟨.bl b, H', I', rfl, qz⟩) fun _ _ e => e)
  refine callType_codes (T := "bool") (Bi := Builtin.«object.__init__») (Q₁ := fun r s₁ => ∃ b, r = .bool b ∧ EP X pins σ Q r s₁) PySem.F.called_bool (PySem.F.typeCall_bool_1 _) PySem.F.entry_object_init ?_ ?_
  · refine codeAny_of_tree ?_
    show wpAny _ X.A.in1.in1 (checkBuiltinCall "bool.__new__" ⟨[.type "bool", .ref a], []⟩ >>= fun _ => again (.builtin "bool.__new__" ⟨[.type "bool", .ref a], []⟩)) _ _ s
    refine wpAny_bind (wpAny_of_eq (PySem.F.newCall_bool_1 _) (wpAny_pure ⟨plainId_quiet (by decide +kernel) _, codeAny_builtin PySem.F.entry_bool_new ?_⟩))
    rw [Around.under_plainId (by decide +kernel) _]
    unfold Builtin.«bool.__new__»
    refine wpAny_bind (m := isType _) (wpAny_pure ?_)
    refine wpAny_bind (wpAny_of_eq PySem.F.conv_sub_bool ?_)
    refine wpAny_bind (m := someArgs _ _ _ _) (wpAny_pure ?_)
    exact wpAny_bind (wpAny_mono tr (fun b s' z => wpAny_pure ⟨b, rfl, z⟩) fun _ _ e => e)
  · rintro obj s₁ ⟨b, rfl, hq⟩
    exact ⟨PySem.typeIs_bool _ _, PySem.F.args_object_init_2 _ _, object_init_meets PySem.F.called_bool.init.lookup PySem.F.called_bool.made (by decide) X.prog X.w X.A.in1 _ s₁ ⟨PySem.typeIs_bool _ _, rfl, hq⟩⟩
/-- x != y, by the class's own __eq__ -/
def rNeO (K : PySem.W.Frag) (C : Addr) (sp : Sp) (E : XK) : R2 := fun x y H Q => ∃ a dx fs t, x = .ref a ∧ H a = some (.ins C dx fs) ∧ TyX K H y t ∧ PySem.W.notFirst K C t = true ∧ sp [x, y] H (fun v H' => ∃ b : Bool, v = .bl b ∧ Q (.bl (!b)) H') E
structure NeM (K : PySem.W.Frag) (C : Addr) (g : Addr) : Prop where
  eq : OwnM K C "__eq__" g
  ne : PySem.W.findIn K (.ref C) "__ne__" = some (some (.builtin "object.__ne__"))
  ob : PySem.W.mroIn K C (.type "object") = some true
theorem rc_of {prog : Program} {w : World} {A : Around} {E : Value → Shared → Prop} {K : PySem.W.Frag} {x : Addr} {ox : Obj} {od : Option Obj} {op : CmpOp} {b tb : Value} {R : Value → Shared → Prop} (hu : A.units < cLine) (KX : K.In s.heap) (I : PySem.W.InstAt s.heap x ox C od)
    (hb : PySem.W.Looks (model prog w) s.heap (typeOf b) tb) (hn : PySem.W.notFirst K C tb = true) (one : wpAny (model prog w) A (tryCompare (.ref x) (cmpInfo op).2.1 b) (fun r s' => ∃ v, r = some v ∧ R v s') E s) : wpAny (model prog w) A (richCompare op (.ref x) b) R E s := by
  have fin : wpAny (model prog w) A (tryCompare (.ref x) (cmpInfo op).2.1 b >>= fun r => match r with
      | some v => pure v
      | none => (default : Sem Value)) R E s := wpAny_bind (wpAny_mono one (fun r s' z => by
    obtain ⟨v, rfl, hv⟩ := z
    exact wpAny_pure hv) fun _ _ e => e)
  simp only [richCompare, oneThing_ref]
  refine wpAny_holding (wpAny_bind (wpAny_cRoomFor hu (wpAny_bind (I.type.here (wpAny_bind (hb.here ?_))))))
  have two : wpAny (model prog w) A (tryCompare (.ref x) (cmpInfo op).2.1 b) (fun r s' => ∃ v, r = some v ∧ R v s') E s := one
  split
  · rename_i q
    rcases Bool.or_eq_true_iff.mp hn with e | e
    · rw [beq_iff_eq.mp e] at q
      simp at q
    · refine wpAny_bind ((PySem.W.looks_subIn KX (beq_iff_eq.mp e)).here ?_)
      simp only [Bool.false_eq_true, if_false]
      exact wpAny_bind (wpAny_mono two (fun r s' z => by obtain ⟨v, rfl, hv⟩ := z; exact wpAny_pure hv) fun _ _ e => e)
  · refine wpAny_bind (wpAny_pure ?_)
    simp only [Bool.false_eq_true, if_false]
    exact wpAny_bind (wpAny_mono two (fun r s' z => by obtain ⟨v, rfl, hv⟩ := z; exact wpAny_pure hv) fun _ _ e => e)
theorem ifBound_ne {M : Model} {A : Around} {E : Value → Shared → Prop} {K : PySem.W.Frag} {x : Addr} {ox : Obj} {od : Option Obj} {args : List Value} {R : Option Value → Shared → Prop} (KX : K.In s.heap) (I : PySem.W.InstAt s.heap x ox C od) (hs : PySem.W.findIn K (.ref C) "__ne__" = some (some (.builtin "object.__ne__")))
    (h : wpAny M A (call (.builtin "object.__ne__") (.ref x :: args)) (fun v => R (some v)) E s) : wpAny M A (callSpecialIfBound? (.ref x) "__ne__" args) R E s := by
  simp only [callSpecialIfBound?, bindSpecialIfBound?]
  refine wpAny_holding (wpAny_bind (wpAny_bind (wpAny_bind (I.type.here ((PySem.W.looks_findIn KX hs).here (wpAny_bind (wpAny_askSetting (wpAny_ite ?_))))))))
  have fin : wpAny M A (call (.builtin "object.__ne__") ([.ref x] ++ args) >>= fun v => pure (some v)) R E s := wpAny_bind (wpAny_mono h (fun _ _ z => wpAny_pure z) fun _ _ z => z)
  have b := PySem.F.cmp_object.ne.bind (.ref x)
  split
  · exact wpAny_bind (wpAny_of_eq b (wpAny_pure (by exact fin)))
  · exact wpAny_tryCatch (wpAny_bind (wpAny_of_eq b (wpAny_pure (by exact fin))))
theorem op_neO (m : NeM X.K C g) (F : FnG X.prog X.w X.K X.mg X.base CX k g fd ps sp) (hr : RoomG (k + 1) X.A) (hb : Binds X.K fd ps []) (hx : Passes CX X E) : OpR X (fun v u => compareOp .NotEq v u) (rNeO X.K C sp E) := by
  intro pins s σ H x y v u Q I rx ry h
  obtain ⟨a, dx, fs, t, rfl, ha, ty, hn, q⟩ := h
  cases (show v = Value.ref a from rx)
  obtain ⟨ox, od, _, J⟩ := inst_of I ha
  obtain ⟨Pt, Z, pz, _⟩ := kit_of I ry ty
  have hu := hr.units
  have run := run_at (args := ⟨[.ref a, u], []⟩) (ws := [.ref a, u]) (vs := [.ref a, y]) F hr.in1 I.env0.in1 hx I (hb s [.ref a, u] I.kIn (by have l := F.len q; exact l)) (.cons rfl (.cons ry .nil)) q
  have one : wpAny (model X.prog X.w) X.A (tryCompare (.ref a) "__ne__" u) (fun r s' => ∃ v, r = some v ∧ EP X pins σ Q v s') X.xe s := by
    unfold tryCompare
    refine wpAny_bind (ifBound_ne I.kIn J m.ne (wpAny_call (codeAny_call_builtin PySem.F.cmp_object.ne.plain PySem.F.cmpEntry_ne (PySem.W.check_slot PySem.F.cmpKind_ne PySem.F.cmpSplit_ne (J.type.andThen (PySem.W.looks_mroIn I.kIn m.ob)) (PySem.F.cmpArgs_ne _ _) ?_))))
    unfold Builtin.«object.__ne__»
    refine wpAny_bind (m := slotArgs _ _ _) (wpAny_pure ?_)
    refine wpAny_bind (wpAny_cRoomFor (by show X.A.units + 1 < cLine; omega) ?_)
    refine wpAny_bind (m := callSpecialIfBound? (.ref a) (Str.ofString "__eq__") [u]) (PySem.W.ifBound_K I.kIn J m.eq.at_ m.eq.fn (wpAny_mono (wp_er run) (fun v s' z => ?_) fun _ _ e => e))
    obtain ⟨w, H', I', rw', b, ez, qz⟩ := z
    subst ez
    cases (show v = Value.bool b from rw')
    refine wpAny_bind (m := truthy (.bool b)) (wpAny_truthy_bool (wpAny_pure ?_))
    exact wpAny_pure ⟨_, rfl, ⟨.bl (!b), H', I', rfl, qz⟩⟩
  exact rc_of (op := .NotEq) hr.units0 I.kIn J (Z.ty _ _ I.kIn pz) hn one
end
end G
namespace G
open PySem PySem.Spec PyProof.Rows L2
/-! ### facts of own operators, as Bools -/
section
variable {K : PySem.W.Frag} {x : Str} {nm : String}
def opB (x : Str) (nm : String) : ExB := fun K => PySem.W.selfFirst K (He.ga K x) && (He.eqO (PySem.W.findIn K (.ref (He.ga K x)) (PySem.dunder nm)) (some (some (.ref (He.ma K (He.ga K x) (PySem.dunder nm))))) && (PySem.W.isFn K (.ref (He.ma K (He.ga K x) (PySem.dunder nm))) &&
  (match PySem.W.findIn K (.ref (He.ga K x)) (dunderR nm) with
    | some none => true
    | some (some (.ref _)) => true
    | _ => false)))
theorem opB_ok (h : opB x nm K = true) : OpB K (He.ga K x) nm (He.ma K (He.ga K x) (PySem.dunder nm)) := by
  obtain ⟨h1, h⟩ := He.ba h
  obtain ⟨h2, h⟩ := He.ba h
  obtain ⟨h3, h4⟩ := He.ba h
  refine ⟨h1, He.eqO_ok h2, h3, ?_⟩
  split at h4
  · rename_i e
    exact ⟨none, e, .inl rfl⟩
  · rename_i g e
    exact ⟨some (.ref g), e, .inr ⟨g, rfl⟩⟩
  · cases h4
def intB (x : Str) (nm : String) : ExB := fun K => (PySem.W.findIn K (.type "int") (PySem.dunder nm)).isSome && ((PySem.W.findIn K (.type "int") (dunderR nm)).isSome && decide (PySem.W.subIn K (.type "int") (.ref (He.ga K x)) = some false))
theorem intB_ok (h : intB x nm K = true) : IntB K (He.ga K x) nm := by
  obtain ⟨h1, h⟩ := He.ba h
  obtain ⟨h2, h3⟩ := He.ba h
  exact ⟨Option.isSome_iff_exists.mp h1, Option.isSome_iff_exists.mp h2, of_decide_eq_true h3⟩
def noIB (x : Str) (nm : String) : ExB := fun K => (match PySem.W.clsIn K (He.ga K x) with
    | some cd => cd.mro == [.ref (He.ga K x), .type "object"]
    | none => false) && (He.eqO (PySem.W.findIn K (.ref (He.ga K x)) (dunderI nm)) (some none) && He.eqO (PySem.W.findIn K (.type "object") (dunderI nm)) (some none))
theorem noIB_ok (h : noIB x nm K = true) : NoI K (He.ga K x) nm := by
  obtain ⟨h1, h⟩ := He.ba h
  obtain ⟨h2, h3⟩ := He.ba h
  refine ⟨?_, He.eqO_ok h2, He.eqO_ok h3⟩
  split at h1
  · rename_i cd e
    exact ⟨cd, e, eq_of_beq h1⟩
  · cases h1
def neB (x : Str) : ExB := fun K => ownB x "__eq__" K && (He.eqO (PySem.W.findIn K (.ref (He.ga K x)) "__ne__") (some (some (.builtin "object.__ne__"))) && decide (PySem.W.mroIn K (He.ga K x) (.type "object") = some true))
theorem neB_ok (h : neB x K = true) : NeM K (He.ga K x) (He.ma K (He.ga K x) "__eq__") := by
  obtain ⟨h1, h⟩ := He.ba h
  obtain ⟨h2, h3⟩ := He.ba h
  exact ⟨ownB_ok h1, He.eqO_ok h2, of_decide_eq_true h3⟩
def noIntB (x : Str) : ExB := fun K => decide (PySem.W.subIn K (.ref (He.ga K x)) (.type "int") = some false)
theorem noIntB_ok (h : noIntB x K = true) : PySem.W.subIn K (.ref (He.ga K x)) (.type "int") = some false := of_decide_eq_true h
end
/-! ### one rule or the other -/
def rOr (r r' : R2) : R2 := fun x y H Q => r x y H Q ∨ r' x y H Q
theorem opOr {X : Cx} {f : Value → Value → Sem Value} {r r' : R2} (h : OpR X f r) (h' : OpR X f r') : OpR X f (rOr r r') := h.or h'
def cOr (r r' : List V → Hp → VK → Prop) : List V → Hp → VK → Prop := fun xs H Q => r xs H Q ∨ r' xs H Q
theorem callOr {X : Cx} {f : Value} {r r' : List V → Hp → VK → Prop} (h : CallR X f r) (h' : CallR X f r') : CallR X f (cOr r r') := h.or h'
def uOr (r r' : V → Hp → VK → Prop) : V → Hp → VK → Prop := fun x H Q => r x H Q ∨ r' x H Q
theorem unOr {X : Cx} {f : Value → Sem Value} {r r' : V → Hp → VK → Prop} (h : UnR X f r) (h' : UnR X f r') : UnR X f (uOr r r') := fun pins s σ H x v Q I rx q => q.elim (h pins s σ H x v Q I rx) (h' pins s σ H x v Q I rx)
theorem pipOr {X : Cx} {op : Operator} {r r' : R2} (h : PIp X op r) (h' : PIp X op r') : PIp X op (rOr r r') := fun pins s σ H x y v u Q I rx ry q => q.elim (h pins s σ H x y v u Q I rx ry) (h' pins s σ H x y v u Q I rx ry)
section
variable {r r' : R2} {c c' : List V → Hp → VK → Prop} {u u' : V → Hp → VK → Prop} {x y : V} {xs : List V} {H : Hp} {Q : VK}
theorem or_l (q : r x y H Q) : rOr r r' x y H Q := .inl q
theorem or_r (q : r' x y H Q) : rOr r r' x y H Q := .inr q
theorem cor_l (q : c xs H Q) : cOr c c' xs H Q := .inl q
theorem cor_r (q : c' xs H Q) : cOr c c' xs H Q := .inr q
theorem uor_l (q : u x H Q) : uOr u u' x H Q := .inl q
theorem uor_r (q : u' x H Q) : uOr u u' x H Q := .inr q
end
/-! ### a list comprehension of one clause -/
section
variable {J : It} {g : TG} {tt : TT} {te : TE} {vs : List Nat} {σ σ0 σ2 : L2.St} {H H1 : Hp} {Q : VK} {D : Addr} {y : V} {R : Hp → Prop} {K : PySem.W.Frag}
def LcK (J : It) (g : TG) (tt : TT) (te : TE) (vs : List Nat) (σ : L2.St) (H1 : Hp) (Q : VK) : Prop := ∀ D, H1 D = none → ∃ W : Nat → Nat → Hp → Prop, (∃ m, W 0 m (upd H1 D (.lst []))) ∧ ∀ i m H, W i m H →
  (J.stop i H ∧ Q (.ref D) H) ∨ (J.go i H ∧ ∃ Nx : Hp → Prop, (∀ H', Nx H' → ∃ m', m' < m ∧ W (i + 1) m' H') ∧ ∀ x H', J.yld i H x H' → g x (wipe σ vs) H' fun σ2 H2 => wipe σ2 vs = wipe σ vs ∧ tt σ2 H2 fun b H3 =>
    if b = true then te σ2 H3 fun y H4 => ∃ acc, H4 D = some (.lst acc) ∧ acc.length < sizeLine ∧ Nx (upd H4 D (.lst (acc ++ [y]))) else Nx H3)
theorem st_lc {wi : TI} (q : wi σ H fun J H1 => LcK J g tt te vs σ H1 Q) : tLc wi g tt te vs σ H Q := q
/-- an item is put behind -/
def AppK (D : Addr) (y : V) (H : Hp) (R : Hp → Prop) : Prop := ∃ acc, H D = some (.lst acc) ∧ acc.length < sizeLine ∧ R (upd H D (.lst (acc ++ [y])))
theorem st_app {acc : List V} (h : H D = some (.lst acc)) (l : acc.length < sizeLine) (q : ∀ H', Md D H H' → H' D = some (.lst (acc ++ [y])) → R H') : AppK D y H R := ⟨acc, h, l, q _ (Md.upd h) upd_same⟩
/-- the block's own names are as they were -/
def WipK (vs : List Nat) (σ2 σ0 : L2.St) (P : Prop) : Prop := wipe σ2 vs = σ0 ∧ P
theorem st_wip {P : Prop} (e : wipe σ2 vs = σ0) (q : P) : WipK vs σ2 σ0 P := ⟨e, q⟩
def LcB (b : Bool) (te : TE) (D : Addr) (σ2 : L2.St) (H : Hp) (R : Hp → Prop) : Prop := if b = true then te σ2 H fun y H4 => AppK D y H4 R else R H
theorem st_lcT (q : te σ2 H fun y H4 => AppK D y H4 R) : LcB true te D σ2 H R := by unfold LcB; rw [if_pos rfl]; exact q
theorem st_lcB {b : Bool} (q : b = true → te σ2 H fun y H4 => AppK D y H4 R) (q' : b = false → R H) : LcB b te D σ2 H R := by
  cases b with
  | true => exact st_lcT (q rfl)
  | false => exact q' rfl
theorem st_yes {Q : Bool → Hp → Prop} (q : Q true H) : tYes σ H Q := q
/-- over a range -/
theorem lc_rngG {lo : Int} {n : Nat} (Pv : Addr → Nat → Hp → Prop) (e : wipe σ vs = σ0) (h0 : ∀ D H2, H1 D = none → Kp H1 H2 → H2 D = some (.lst []) → Pv D 0 H2)
    (hs : ∀ D i H, i < n → Pv D i H → g (.int (lo + i)) σ0 H fun σ2 H2 => WipK vs σ2 σ0 (tt σ2 H2 fun b H3 => LcB b te D σ2 H3 (Pv D (i + 1)))) (hd : ∀ D H, Pv D n H → Q (.ref D) H) : LcK (Itr lo n) g tt te vs σ H1 Q := fun D hD => by
  subst e
  exact lc_range (Pv D) (h0 D _ hD (Kp.new hD) upd_same) (hs D) (hd D)
/-- over a list that the block leaves as it is -/
theorem lc_lstG {a : Addr} {xs : List V} (Pv : Addr → Nat → Hp → Prop) (e : wipe σ vs = σ0) (h0 : ∀ D H2, H1 D = none → Kp H1 H2 → H2 D = some (.lst []) → Pv D 0 H2) (hl : ∀ D i H, i ≤ xs.length → Pv D i H → SqL K H a xs)
    (hs : ∀ D i x H, xs[i]? = some x → Pv D i H → g x σ0 H fun σ2 H2 => WipK vs σ2 σ0 (tt σ2 H2 fun b H3 => LcB b te D σ2 H3 (Pv D (i + 1)))) (hd : ∀ D H, Pv D xs.length H → Q (.ref D) H) : LcK (Itl K a) g tt te vs σ H1 Q := fun D hD => by
  subst e
  exact lc_list (Pv D) (h0 D _ hD (Kp.new hD) upd_same) (hl D) (hs D) (hd D)
end
end G
namespace G
open PySem PySem.Spec PyProof.Rows L2
/-! ### texts: their lengths, f-strings, repr -/
abbrev tx (i : Int) : Str := Str.ofString (toString i)
/-- at most n signs -/
def LB (n : Nat) (z : Str) : Prop := z.length ≤ n
theorem LB.app {n m : Nat} {y z : Str} (h : LB n y) (k : LB m z) : LB (n + m) (y ++ z) := by
  show (y ++ z).length ≤ n + m
  rw [strLen_append]
  exact Nat.add_le_add h k
theorem LB.int {m : Nat} {i : Int} (h : Bd m i) (l : m < 1920) : LB 1921 (tx i) := int_text_len_1921 (Nat.lt_of_le_of_lt (log_of h) l)
theorem LB.lit (z : Str) : LB z.length z := Nat.le_refl _
theorem LB.fits {n : Nat} {z : Str} (h : LB n z) (l : n ≤ 16000000) : z.length ≤ sizeLine := by
  have := sizeLine_eq
  have h' : z.length ≤ n := h
  omega
theorem LB.two {n m : Nat} {y z : Str} (h : LB n y) (k : LB m z) (l : n + m ≤ 16000000) : y.length + z.length ≤ sizeLine := by
  have := sizeLine_eq
  have h' : y.length ≤ n := h
  have k' : z.length ≤ m := k
  omega
section
variable {t : TE} {ts : List TE} {acc y : Str} {σ : L2.St} {H : Hp} {K : Str → Hp → Prop} {Q : VK} {x : V} {KF : PySem.W.Frag} {a : Addr} {i j : Int}
def JsK (x : V) (acc : Str) (ts : List TE) (σ : L2.St) (H : Hp) (K : Str → Hp → Prop) : Prop := ∃ y : Str, x = .str y ∧ (acc ++ y).length ≤ sizeLine ∧ tJs ts (acc ++ y) σ H K
theorem st_jsC (q : t σ H fun x H1 => JsK x acc ts σ H1 K) : tJs (t :: ts) acc σ H K := q
theorem st_jsK (l : (acc ++ y).length ≤ sizeLine) (q : tJs ts (acc ++ y) σ H K) : JsK (.str y) acc ts σ H K := ⟨y, rfl, l, q⟩
theorem st_jsN (q : K acc H) : tJs [] acc σ H K := q
def FmtK (x : V) (H : Hp) (Q : VK) : Prop := (∃ y : Str, x = .str y ∧ y.length ≤ sizeLine ∧ Q (.str y) H) ∨ ∃ i : Int, x = .int i ∧ i.natAbs.log2 < 1920 ∧ Q (.str (toString i)) H
theorem st_fmt (q : t σ H fun x H1 => FmtK x H1 Q) : tFmt t σ H Q := q
theorem fmt_i {m : Nat} (b : Bd m i) (l : m < 1920) (q : Q (.str (tx i)) H) : FmtK (.int i) H Q := .inr ⟨i, rfl, Nat.lt_of_le_of_lt (log_of b) l, q⟩
theorem fmt_s (l : y.length ≤ sizeLine) (q : Q (.str y) H) : FmtK (.str y) H Q := .inl ⟨y, rfl, l, q⟩
/-- str(i) -/
def StrIK : List V → Hp → VK → Prop := fun xs H Q => ∃ i, xs = [.int i] ∧ i.natAbs.log2 < 1920 ∧ Q (.str (toString i)) H
theorem str_i {m : Nat} (b : Bd m i) (l : m < 1920) (q : Q (.str (tx i)) H) : StrIK [.int i] H Q := ⟨i, rfl, Nat.lt_of_le_of_lt (log_of b) l, q⟩
theorem call_strG {X : Cx} : CallR X (.type "str") StrIK := call_str_int
/-! repr -/
theorem empty_app (z : Str) : Str.empty ++ z = z := by
  have e : (Str.empty ++ z) = z := by
    first
      | rfl
      | simp
      | (show Str.append Str.empty z = z; unfold Str.append Str.empty; simp)
  exact e
theorem shown_t2 {m n : Nat} (b1 : Bd m i) (l1 : m < 1920) (b2 : Bd n j) (l2 : n < 1920) : (PyData.shown (.tuple [.int i, .int j])).length ≤ 4000 := by
  have h1 : (tx i).length ≤ 1921 := LB.int b1 l1
  have h2 : (tx j).length ≤ 1921 := LB.int b2 l2
  have e : PyData.shown (.tuple [.int i, .int j]) = ("(" : Str) ++ (tx i ++ (", " : Str) ++ tx j) ++ (")" : Str) := by
    simp only [PyData.shown_tuple, PyData.shownAll_cons, PyData.shownAll_nil, PyData.shown_int]
    rfl
  rw [e]
  simp only [strLen_append]
  have : ("(" : Str).length = 1 := by decide
  have : (", " : Str).length = 2 := by decide
  have : (")" : Str).length = 1 := by decide
  omega
theorem repr_t2 {m n : Nat} (h : SqT KF H a [.int i, .int j]) (b1 : Bd m i) (l1 : m < 1920) (b2 : Bd n j) (l2 : n < 1920) (q : Q (.str (PyData.shown (.tuple [.int i, .int j]))) H) : rReprG KF [.ref a] H Q :=
  ⟨.ref a, .tuple [.int i, .int j], rfl, .tup h (.cons (.int _) (.cons (.int _) .nil)), by simp [PyData.showable, PyData.showableAll, Nat.lt_of_le_of_lt (log_of b1) l1, Nat.lt_of_le_of_lt (log_of b2) l2], by rfl,
    Nat.le_trans (shown_t2 b1 l1 b2 l2) (by rw [sizeLine_eq]; decide), by simp [PyData.depth, PyData.depthAll], q⟩
theorem st_glst {m : Nat} {g : TGs} {xs : List V} {n : L2.St → Hp → Prop} (h : SqL KF H a xs) (l : xs.length = m) (q : g xs σ H n) : gLst KF m g (.ref a) σ H n := ⟨a, xs, rfl, h, l, q⟩
end
end G
namespace G
open PySem PySem.Spec PyProof.Rows L2
section
variable {σ : L2.St} {H : Hp} {x : V}
/-- name op= e -/
theorem st_aug {i : Nat} {ti : TIp} {D : Ends} {te : TE} (h : σ[i]? = some (some x)) (q : te σ H fun y H1 => ti x y H1 fun z H2 => gName i z σ H2 D.nx) : tAug i te ti D σ H := ⟨x, h, q⟩
end
end G
namespace G
open PySem PySem.Spec PyProof.Rows L2
/-! ### the head's facts over the part that some names of the module reach -/
/-- new addresses: those whose bit is not set yet -/
def addB {T : Type} : List Addr → Nat → List Addr → (Nat → List Addr → T) → T
  | [], m, acc, k => k m acc
  | b :: r, m, acc, k => match Nat.beq (Nat.land (Nat.shiftRight m b) 1) 1 with
    | true => addB r m acc k
    | false => HandSHeadRun.frNat (Nat.lor m (Nat.shiftLeft 1 b)) fun m' => HandSHeadRun.frNat b fun b' => addB r m' (b' :: acc) k
def reachB {T : Type} (g : Addr → Option Obj) : List Addr → Nat → List Addr → (Nat → List Addr → T) → T
  | [], m, acc, k => k m acc
  | a :: r, m, acc, k => match g a with
    | some o => addB (He.refsD o) m acc fun m' acc' => reachB g r m' acc' k
    | none => reachB g r m acc k
/-- n levels, from a row of addresses on -/
def levelsB {T : Type} (g : Addr → Option Obj) : Nat → List Addr → Nat → List Addr → (List Addr → T) → T
  | 0, _, _, all, k => k all
  | n + 1, fr, m, all, k => reachB g fr m [] fun m' new => levelsB g n new m' (new ++ all) k
def namedB (g : Addr → Option Obj) (xs : List Str) : List Addr := xs.filterMap fun x => match PySem.W.nsIn (He.frG g [mainGlobals]) mainGlobals x with
  | some (some (.ref a)) => some a
  | _ => none
/-- what these names reach, but nothing by the module's own dict -/
def asB {T : Type} (g : Addr → Option Obj) (xs : List Str) (n : Nat) (k : List Addr → T) : T := addB (namedB g xs) (Nat.lor (Nat.shiftLeft 1 mainGlobals) (Nat.lor (Nat.shiftLeft 1 builtinsNs) (Nat.shiftLeft 1 cStatics))) [] fun m new =>
  levelsB g n new m (new ++ [mainGlobals, builtinsNs, cStatics]) k
def obsNG (xs : List Str) (n : Nat) (ex : List ExB) (fn : List He5.DefA) (g : Addr → Option Obj) : He.AlD := obsX ex fn (He.frG g (asB g xs n fun as => as))
def hookN (xs : List Str) (n : Nat) (ex : List ExB) (fn : List He5.DefA) : PySem.W.Hook where
  α := He.AlD
  obs := fun s => obsNG xs n ex fn s.heap.get?
  val := fun _ => He5.valA fn
  says := fun _ h => ∃ K : PySem.W.Frag, K.In h ∧ SaysX ex fn K
  of := fun _ _ e => ⟨_, He.frG_in, e⟩
  keeps := fun _ _ _ ⟨K, hK, c⟩ k => ⟨K, PySem.W.Frag.In.keeps hK k, c⟩
theorem obsNG_eq {xs : List Str} {n : Nat} {ex : List ExB} {fn : List He5.DefA} {g : Addr → Option Obj} {s : Shared} (h : ∀ a, g a = s.heap.get? a) : obsNG xs n ex fn g = (hookN xs n ex fn).obs s := by
  have e : g = s.heap.get? := funext h
  rw [e] <;> rfl
/-- three looks at one run -/
theorem map3 {S A B C : Type} {o : Option S} {f : S → A} {g : S → B} {k : S → C} {a : A} {b : B} {c : C} (h1 : o.map f = some a) (h2 : o.map g = some b) (h3 : o.map k = some c) : o.map (fun s => (f s, g s, k s)) = some (a, b, c) := by
  cases o with
  | none => cases h1
  | some s =>
    cases (show f s = a from Option.some.inj h1)
    cases (show g s = b from Option.some.inj h2)
    cases (show k s = c from Option.some.inj h3)
    rfl
end G
namespace G
open PySem PySem.Spec PySem.Calls PyProof.Rows L2
/-! ### rules for an object of any class that has the def -/
section
variable {X : Cx} {CX : CXT} {k : Nat} {f g C : Addr} {fd : FuncData} {ps : List Str} {sp : Sp} {dvs : List V} {ds : List Value} {E : XK} {x m : Str} {p pos apos : Pos} {e o : Expr} {es : List Expr} {ta : TE} {t : TA} {pins : List (Addr × Obj)} {σ : L2.St} {H : Hp} {s : Shared} {Q : VK} {pl : Sem Bool}
def RecvP (K : PySem.W.Frag) (m : Str) (f : Addr) (x : V) (H : Hp) (R : Prop) : Prop := ∃ a C dx fs, x = .ref a ∧ H a = some (.ins C dx fs) ∧ Cls K C ∧ Meth K C m f ∧ fs.lookup m = none ∧ R
/-- o.m(..) -/
def tMethP (K : PySem.W.Frag) (m : Str) (f : Addr) (sp : Sp) (dvs : List V) (E : XK) (ta : TE) (t : TA) : TE := fun σ H Q => ta σ H fun x H1 => RecvP K m f x H1 (t σ H1 fun vs H2 => sp (x :: (vs ++ dvs)) H2 Q E)
theorem pe_methP (he : PE X o ta) (F : FnG X.prog X.w X.K X.mg X.base CX k f fd ps sp) (hr : RoomG k X.A) (hb : Binds X.K fd ps ds) (hd : Vals dvs ds) (hx : Passes CX X E) (ha : PA X (e :: es) t)
    (hst : starEach (e :: es) X.env = (false, eval e X.env) :: starEach es X.env := by rfl) (hpl : (backTo pos (starEach es X.env)).any (·.1) = false := by rfl) (ht : MethT X o m apos pos (e :: es) [] pl := by rfl) :
    PE X (.Call (.Attribute o m apos) (e :: es) [] pos) (tMethP X.K m f sp dvs E ta t) :=
  ⟨fun pins s σ H _ I h => PySem.W.methodCall_KW (pl := pl) (thn (he.run pins s σ H _ I h) fun u s1 ⟨x, H1, J, rx, a, C, dx, fs, ex, ea, c, hm, l, q⟩ => by
    subst ex
    cases (show u = Value.ref a from rx)
    exact getmeth_ok J ea c hm l (PySem.W.callWith_K (first := [.ref a]) (h₀ := X.base) J.ok.mod.kin hm.kp (thn (ha.run pos pins s1 σ H1 _ J q) fun us _ ⟨vs, _, J2, r, q2⟩ => ⟨J2.kIn, run_fnG (us := .ref a :: us) (vs := .ref a :: vs) F hr hb hd hx J2 (.cons rfl r) q2⟩) hst hpl)) ht⟩
theorem pe_methP0 (he : PE X o ta) (F : FnG X.prog X.w X.K X.mg X.base CX k f fd ps sp) (hr : RoomG k X.A) (hb : Binds X.K fd ps ds) (hd : Vals dvs ds) (hx : Passes CX X E)
    (ht : MethT X o m apos pos [] [] pl := by rfl) : PE X (.Call (.Attribute o m apos) [] [] pos) (tMethP X.K m f sp dvs E ta tNil) :=
  ⟨fun pins s σ H _ I h => PySem.W.methodCall_KW (pl := pl) (thn (he.run pins s σ H _ I h) fun u s1 ⟨x, H1, J, rx, a, C, dx, fs, ex, ea, c, hm, l, q⟩ => by
    subst ex
    cases (show u = Value.ref a from rx)
    exact getmeth_ok J ea c hm l (PySem.W.callWith_K0 (first := [.ref a]) J.kIn hm.kp (run_fnG (us := [.ref a]) (vs := [.ref a]) F hr hb hd hx J (.cons rfl .nil) q))) ht⟩
/-- o.x, a property -/
def PropK (K : PySem.W.Frag) (m : Str) (g : Addr) (x : V) (H : Hp) (R : Prop) : Prop := ∃ a C dx fs p, x = .ref a ∧ H a = some (.ins C dx fs) ∧ Cls K C ∧ PropOf K C m p g ∧ R
def tPropP (K : PySem.W.Frag) (m : Str) (g : Addr) (sp : Sp) (E : XK) (ta : TE) : TE := fun σ H Q => ta σ H fun x H1 => PropK K m g x H1 (sp [x] H1 Q E)
theorem getpropG {a dx : Addr} {fs : List (Str × V)} {b : Bool} {q : Addr} (I : Inv X pins σ H s) (ea : H a = some (.ins C dx fs)) (c : Cls X.K C) (hp : PropOf X.K C m q g)
    (F : FnG X.prog X.w X.K X.mg X.base CX k g fd ps sp) (hr : RoomG (k + 1) X.A) (hb : Binds X.K fd ps []) (hx : Passes CX X.nox E) (h : sp [.ref a] H Q E) :
    wpAny (model X.prog X.w) X.A (getAttr (.ref a) m b) (EP X pins σ Q) X.xe s := by
  obtain ⟨mA, O, _, _, _, _⟩ := ins_get I.hok ea
  obtain ⟨od, J, _⟩ := O.look
  obtain ⟨rest, hrec⟩ := hp.rec_
  have I1 := I.tok (s.toks + 1)
  have hl : ([Value.ref a] ++ []).length = ps.length := by
    rw [← F.len h]
    rfl
  have hc : (PySem.W.clsIn X.K C).isSome = true := by
    obtain ⟨cd, hc, _⟩ := PySem.W.any_some c.hd
    rw [hc]
    rfl
  refine PySem.W.get_bind I.kIn J (PySem.W.plainGet_of (c.get m)).1 (PySem.W.findObj_data hc hp.at_ hp.get hp.tak) (PySem.W.plainGet_of (c.get m)).2 (wpAny_call (PySem.W.prop_get (s := { s with toks := s.toks + 1 }) I.kIn hrec ?_))
  refine codeAny_mono (F.run (us := [.ref a]) (vs := [.ref a]) hr.in1 I1.env0.in1 (hb _ [.ref a] I1.kIn hl) (.cons rfl .nil) h) fun r s' hq => ?_
  match r, hq with
  | .error er, hq => exact False.elim (hx pins σ H { s with toks := s.toks + 1 } er s' (I1.wish _) hq)
  | .ok (.ret u), hq =>
    obtain ⟨v, H', I3, rv, q3⟩ := I1.after hq
    show wpAny _ _ (handedOut u) _ _ _
    rw [PySem.W.handedOut_of (handed_of rv)]
    exact wpAny_pure ⟨v, H', I3, rv, q3⟩
theorem pe_propP (he : PE X e ta) (F : FnG X.prog X.w X.K X.mg X.base CX k g fd ps sp) (hr : RoomG (k + 1) X.A) (hb : Binds X.K fd ps []) (hx : Passes CX X.nox E)
    (hab : attributeBase e m X.env (eval e X.env) = eval e X.env) : PE X (.Attribute e m pos) (tPropP X.K m g sp E ta) := by
  refine ⟨fun pins s σ H Q I h => ?_⟩
  refine attr_of hab (thn (he.run pins s σ H _ I h) fun u s1 ⟨x, H1, I1, rx, a, C, dx, fs, p, ex, ea, c, hp, q⟩ => ?_)
  subst ex
  obtain rfl : u = Value.ref a := rx
  exact getpropG I1 ea c hp F hr hb hx q
/-- x op y, a comparison by the def of x's class -/
def rCmpP (K : PySem.W.Frag) (nm : Str) (g : Addr) (sp : Sp) (E : XK) : R2 := fun x y H Q => ∃ a C dx fs t, x = .ref a ∧ H a = some (.ins C dx fs) ∧ OwnM K C nm g ∧ TyX K H y t ∧ PySem.W.notFirst K C t = true ∧ sp [x, y] H Q E
theorem op_cmpP {op : CmpOp} (hop : ∀ a b, compareOp op a b = richCompare op a b) (F : FnG X.prog X.w X.K X.mg X.base CX k g fd ps sp) (hr : RoomG k X.A) (hb : Binds X.K fd ps []) (hx : Passes CX X E) :
    OpR X (compareOp op) (rCmpP X.K (cmpInfo op).2.1 g sp E) := fun pins s σ H x y v u Q I rx ry ⟨a, C, dx, fs, t, ex, ha, hs, ty, hn, q⟩ =>
  op_cmpO (C := C) hop hs F hr hb hx pins s σ H x y v u Q I rx ry ⟨a, dx, fs, t, ex, ha, ty, hn, q⟩
/-- x != y by x's own __eq__ -/
def rNeP (K : PySem.W.Frag) (g : Addr) (sp : Sp) (E : XK) : R2 := fun x y H Q => ∃ a C dx fs t, x = .ref a ∧ H a = some (.ins C dx fs) ∧ NeM K C g ∧ TyX K H y t ∧ PySem.W.notFirst K C t = true ∧ sp [x, y] H (fun v H' => ∃ b : Bool, v = .bl b ∧ Q (.bl (!b)) H') E
theorem op_neP (F : FnG X.prog X.w X.K X.mg X.base CX k g fd ps sp) (hr : RoomG (k + 1) X.A) (hb : Binds X.K fd ps []) (hx : Passes CX X E) : OpR X (fun v u => compareOp .NotEq v u) (rNeP X.K g sp E) := fun pins s σ H x y v u Q I rx ry ⟨a, C, dx, fs, t, ex, ha, hs, ty, hn, q⟩ =>
  op_neO (C := C) hs F hr hb hx pins s σ H x y v u Q I rx ry ⟨a, dx, fs, t, ex, ha, ty, hn, q⟩
end
section
variable {K : PySem.W.Frag} {m : Str} {f g : Addr} {x : V} {H : Hp} {R : Prop} {sp : Sp} {E : XK} {ta : TE} {tl : TA} {σ : L2.St} {Q : VK}
theorem st_methP (q : ta σ H fun x H1 => RecvP K m f x H1 (tl σ H1 fun vs H2 => sp (x :: vs) H2 Q E)) : tMethP K m f sp [] E ta tl σ H Q := by
  unfold tMethP
  simp only [List.append_nil]
  exact q
theorem st_propP (q : ta σ H fun x H1 => PropK K m g x H1 (sp [x] H1 Q E)) : tPropP K m g sp E ta σ H Q := q
/-- a constant of the class -/
def ConK (K : PySem.W.Frag) (m : Str) (x : V) (H : Hp) (Q : VK) : Prop := ∃ a C dx fs v u, x = .ref a ∧ H a = some (.ins C dx fs) ∧ Cls K C ∧ Con K C m v u ∧ fs.lookup m = none ∧ Q v H
theorem st_con (q : ta σ H fun x H1 => ConK K m x H1 Q) : tCon K ta m σ H Q := q
end
/-! facts: what a class has from the one above it -/
section
variable {K : PySem.W.Frag} {x y m : Str}
def inhB (x y m : Str) : ExB := fun K => Nat.beq (He.ma K (He.ga K x) m) (He.ma K (He.ga K y) m)
theorem inhB_ok (h : inhB x y m K = true) : He.ma K (He.ga K x) m = He.ma K (He.ga K y) m := Nat.eq_of_beq_eq_true h
def inhP (x y m : Str) : ExB := fun K => Nat.beq (prA x m K) (prA y m K)
theorem inhP_ok (h : inhP x y m K = true) : prA x m K = prA y m K := Nat.eq_of_beq_eq_true h
/-- an int of the class -/
def conB (x m : Str) (i : Int) : ExB := fun K => (match PySem.W.findIn K (.ref (He.ga K x)) m with
  | some (some (.int j t)) => decide (i = j) && He.eqO (PySem.W.specialIn K (.int j t) "__get__") (some none)
  | _ => false) && !PySem.W.copiedNames.contains m
theorem conB_ok {i : Int} (h : conB x m i K = true) : ∃ u, Con K (He.ga K x) m (.int i) u := by
  obtain ⟨h1, h2⟩ := He.ba h
  split at h1
  · rename_i j t e
    obtain ⟨h3, h4⟩ := He.ba h1
    have := of_decide_eq_true h3
    subst this
    exact ⟨.int i t, e, ⟨t, rfl⟩, He.eqO_ok h4, by simpa using h2⟩
  · cases h1
end
end G
namespace G
open PySem PySem.Spec PySem.Calls PyProof.Rows L2
/-! ### more rules: ints of the module, ints ahead, data by their texts and as one another -/
section
variable {ex : List ExB} {fn : List He5.DefA} {K : PySem.W.Frag} {mg : Str → Option Value}
def gintB (x : Str) (i : Int) : ExB := fun K => match PySem.W.nsIn K mainGlobals x with
  | some (some (.int j _)) => decide (i = j)
  | _ => false
theorem gint_ok (T : Txt ex fn K mg) (n : Nat) (x : Str) {i : Int} (h : ex[n]? = some (gintB x i)) : ∃ u, mg x = some (.int i u) := by
  have c := T.fact n h
  unfold gintB at c
  split at c
  · rename_i j u e
    have := of_decide_eq_true c
    subst this
    exact ⟨u, T.glo x _ e⟩
  · cases c
end
section
variable {KF : PySem.W.Frag} {H : Hp} {Q : VK} {a d : Addr} {i j : Int} {s z : Str} {b c : Bool}
theorem repr_i {m : Nat} (b1 : Bd m i) (l1 : m < 1920) (q : Q (.str (PyData.shown (.int i))) H) : rReprG KF [.int i] H Q :=
  ⟨.int i, .int i, rfl, .int i, by simp [PyData.showable, Nat.lt_of_le_of_lt (log_of b1) l1], by rfl, by
    rw [PyData.shown_int]
    have h1 : (tx i).length ≤ 1921 := LB.int b1 l1
    exact Nat.le_trans h1 (by rw [sizeLine_eq]; decide), by simp [PyData.depth], q⟩
theorem repr_b (q : Q (.str (PyData.shown (.bool b))) H) : rReprG KF [.bl b] H Q :=
  ⟨.bl b, .bool b, rfl, .bl b, by simp [PyData.showable], by rfl, by cases b <;> (rw [sizeLine_eq]; decide +kernel), by simp [PyData.depth], q⟩
theorem repr_lib {m : Nat} (h : SqL KF H a [.int i, .bl b]) (b1 : Bd m i) (l1 : m < 1920) (q : Q (.str (PyData.shown (.list [.int i, .bool b]))) H) : rReprG KF [.ref a] H Q :=
  ⟨.ref a, .list [.int i, .bool b], rfl, .lst h (.cons (.int _) (.cons (.bl _) .nil)), by simp [PyData.showable, PyData.showableAll, Nat.lt_of_le_of_lt (log_of b1) l1], by rfl, by
    have h1 : (tx i).length ≤ 1921 := LB.int b1 l1
    have h2 : (PyData.shown (.bool b)).length ≤ 5 := by cases b <;> decide +kernel
    have e : PyData.shown (.list [.int i, .bool b]) = ("[" : Str) ++ (tx i ++ (", " : Str) ++ PyData.shown (.bool b)) ++ ("]" : Str) := by
      simp only [PyData.shown_list, PyData.shownAll_cons, PyData.shownAll_nil, PyData.shown_int]
      rfl
    rw [e, sizeLine_eq]
    simp only [strLen_append]
    have : ("[" : Str).length = 1 := by decide
    have : (", " : Str).length = 2 := by decide
    have : ("]" : Str).length = 1 := by decide
    omega, by simp [PyData.depth, PyData.depthAll], q⟩
theorem eq_l4b {i0 i1 i2 i3 j0 j1 j2 j3 : Bool} (h1 : SqL KF H a [.bl i0, .bl i1, .bl i2, .bl i3]) (h2 : SqL KF H d [.bl j0, .bl j1, .bl j2, .bl j3]) (q : Q (.bl (decide (i0 = j0 ∧ i1 = j1 ∧ i2 = j2 ∧ i3 = j3))) H) : rEqG KF (.ref a) (.ref d) H Q :=
  .inr ⟨_, _, .lst h1 (.cons (.bl _) (.cons (.bl _) (.cons (.bl _) (.cons (.bl _) .nil)))), .lst h2 (.cons (.bl _) (.cons (.bl _) (.cons (.bl _) (.cons (.bl _) .nil)))), by rfl, by rfl, by
    have e : PyData.eqv (.list [.bool i0, .bool i1, .bool i2, .bool i3]) (.list [.bool j0, .bool j1, .bool j2, .bool j3]) = decide (i0 = j0 ∧ i1 = j1 ∧ i2 = j2 ∧ i3 = j3) := by simp [PyData.eqv, PyData.eqvAll, Bool.beq_eq_decide_eq, Bool.decide_and, Bool.and_assoc]
    rw [e]
    exact q⟩
theorem eqv_tsi : PyData.eqv (.tuple [.str s, .int i]) (.tuple [.str z, .int j]) = decide (s = z ∧ i = j) := by simp [PyData.eqv, PyData.eqvAll, Bool.beq_eq_decide_eq]
theorem shp_si (k : (PyData.str s).canLay0 = true) : SeqAt.shaped (.tuple [.str s, .int i]) = true := by
  have k' : PyData.strOk s = true := k
  simp [SeqAt.shaped, PyData.canLay0, PyData.canLayAll0, PyData.depth, PyData.depthAll, k']
theorem eq_tsi (k1 : (PyData.str s).canLay0 = true) (k2 : (PyData.str z).canLay0 = true) (h1 : SqT KF H a [.str s, .int i]) (h2 : SqT KF H d [.str z, .int j]) (q : Q (.bl (decide (s = z ∧ i = j))) H) : rEqG KF (.ref a) (.ref d) H Q :=
  eq_dd (.tup h1 (.cons (.str _) (.cons (.int _) .nil))) (.tup h2 (.cons (.str _) (.cons (.int _) .nil))) (shp_si k1) (shp_si k2) (by rw [eqv_tsi]; exact q)
theorem ne_tsi (k1 : (PyData.str s).canLay0 = true) (k2 : (PyData.str z).canLay0 = true) (h1 : SqT KF H a [.str s, .int i]) (h2 : SqT KF H d [.str z, .int j]) (q : Q (.bl (!decide (s = z ∧ i = j))) H) : rNeG KF (.ref a) (.ref d) H Q :=
  ne_dd (.tup h1 (.cons (.str _) (.cons (.int _) .nil))) (.tup h2 (.cons (.str _) (.cons (.int _) .nil))) (shp_si k1) (shp_si k2) (by rw [eqv_tsi]; exact q)
theorem ne_l0 (h1 : SqL KF H a []) (h2 : SqL KF H d []) (q : Q (.bl false) H) : rNeG KF (.ref a) (.ref d) H Q :=
  ne_dd (.lst h1 .nil) (.lst h2 .nil) (by rfl) (by rfl) (by
    have e : PyData.eqv (.list []) (.list []) = true := by rfl
    rw [e]
    exact q)
end
end G
namespace G
open PySem PySem.Spec PySem.Calls PyProof.Rows L2
section
variable {prog : Program} {w : World}
theorem declines_sub : Declines prog w "sub" := fun {A E s Q n t x ox} hx hd q => by
  unfold tryMethod
  refine wpAny_bind ?_
  generalize hz : PySem.dunder "sub" = z
  refine wpAny_callSpecial?_slot (id := "int.__sub__") (T := "int") (typeIs_int s n t) (by rw [← hz]; exact F.slot_int_sub) ?_
  exact wpAny_call_entry F.slot_int_sub (typeIs_int s n t) F.entry_int_sub (intB_declines hx hd ⟨_, rfl, wpAny_pure q⟩) (F.args_int_sub_2 _ _)
theorem declines_add : Declines prog w "add" := fun {A E s Q n t x ox} hx hd q => by
  unfold tryMethod
  refine wpAny_bind ?_
  generalize hz : PySem.dunder "add" = z
  refine wpAny_callSpecial?_slot (id := "int.__add__") (T := "int") (typeIs_int s n t) (by rw [← hz]; exact F.slot_int_add) ?_
  exact wpAny_call_entry F.slot_int_add (typeIs_int s n t) F.entry_int_add (intB_declines hx hd ⟨_, rfl, wpAny_pure q⟩) (F.args_int_add_2 _ _)
end
end G
namespace G
open PySem PySem.Spec PyProof.Rows L2
/-! ### one list changes, over a row of steps -/
section
variable {p : Addr} {H H1 H2 H' : Hp}
def MdT (p : Addr) (H H1 H' : Hp) : Prop := Md p H H1 → Md p H H'
theorem mdt_go (m : Md p H H1) (r : MdT p H H1 H') : Md p H H' := r m
theorem mdt_z : MdT p H H' H' := id
theorem mdt_k (k : Kp H1 H2) (r : MdT p H H2 H') : MdT p H H1 H' := fun m => r (m.kp_r k)
theorem mdt_m (k : Md p H1 H2) (r : MdT p H H2 H') : MdT p H H1 H' := fun m => r (m.trans k)
theorem mdt_s {xs : List V} (h : H p = some (.lst xs)) : Md p H H := Md.of_kp h Kp.refl
end
section
variable {X : Cx} {CX : CXT} {k : Nat} {g : Addr} {fd : FuncData} {ps : List Str} {sp : Sp} {E : XK}
theorem op_eqQ (F : FnG X.prog X.w X.K X.mg X.base CX k g fd ps sp) (hr : RoomG k X.A) (hb : Binds X.K fd ps []) (hx : Passes CX X E) : OpR X (compareOp .Eq) (rCmpP X.K (cmpInfo .Eq).2.1 g sp E) := op_cmpP (fun _ _ => rfl) F hr hb hx
theorem op_neQ (F : FnG X.prog X.w X.K X.mg X.base CX k g fd ps sp) (hr : RoomG (k + 1) X.A) (hb : Binds X.K fd ps []) (hx : Passes CX X E) : OpR X (compareOp .NotEq) (rNeP X.K g sp E) := op_neP F hr hb hx
theorem op_eqR {K : PySem.W.Frag} (hK : X.K = K) (F : FnG X.prog X.w K X.mg X.base CX k g fd ps sp) (hr : RoomG k X.A) (hb : Binds K fd ps []) (hx : Passes CX X E) : OpR X (compareOp .Eq) (rCmpP K (cmpInfo .Eq).2.1 g sp E) := by
  subst hK
  exact op_eqQ F hr hb hx
theorem op_neR {K : PySem.W.Frag} (hK : X.K = K) (F : FnG X.prog X.w K X.mg X.base CX k g fd ps sp) (hr : RoomG (k + 1) X.A) (hb : Binds K fd ps []) (hx : Passes CX X E) : OpR X (compareOp .NotEq) (rNeP K g sp E) := by
  subst hK
  exact op_neQ F hr hb hx
end
theorem st_lcF {te : TE} {D : Addr} {σ2 : L2.St} {H : Hp} {R : Hp → Prop} (q : R H) : LcB false te D σ2 H R := by unfold LcB; rw [if_neg Bool.false_ne_true]; exact q
end G
namespace G
open PySem PySem.Spec PySem.Calls PyProof.Rows L2
/-! ### o.m(..), where the attribute m holds an object whose class has __call__ -/
section
variable {M : Model} {A : Around} {E : Value → Shared → Prop} {s : Shared} {K : PySem.W.Frag} {env : Env} {pos : Pos} {b C : Addr} {Q : Value → Shared → Prop}
/-- an own object stands there, as it is now -/
def Stand (K : PySem.W.Frag) (b C : Addr) (h : Heap) : Prop := K.In h ∧ ∃ (ox : Obj) (od : Option Obj), ox.data = .plain ∧ PySem.W.InstAt h b ox C od
theorem keeperB {h : Heap} (z : Stand K b C h) : PySem.W.Looks M h (keeperOf (.ref b)) .caller := let ⟨_, _, _, hd, I⟩ := z; PySem.W.kco_keeper I hd
theorem callWithB {es : List (Bool × Sem Value)} (np : (es.any (·.1) || ([] : List (Option Str × Sem Value)).any (·.1.isNone)) = false)
    (h : wpAny M A (evalArgs (.ref b) true es []) (fun a t => Stand K b C t.heap ∧ wpAny M A (call (.ref b) ([] ++ a.pos) a.kw) Q E t) E s) : wpAny M A (callWith pos (.ref b) [] es []) Q E s := by
  unfold callWith
  refine wpAny_bind (wpAny_holding (wpAny_mono h (fun a t z => ?_) fun _ _ y => y))
  refine wpAny_bind (wpAny_standAt ?_)
  have lk := keeperB (M := M) z.1
  simp only [np]
  refine wpAny_bind (lk.here ?_)
  refine wpAny_bind (wpAny_mono (wpAny_operateT z.2) (fun r u hr => ?_) fun _ _ y => y)
  exact wpAny_bind (wpAny_holding (wpAny_point (wpAny_pure hr)))
end
section
variable {X : Cx} {CX : CXT} {k : Nat} {g : Addr} {fd : FuncData} {ps : List Str} {sp : Sp} {dvs : List V} {ds : List Value} {E : XK} {m : Str} {p pos apos : Pos} {e o : Expr} {es : List Expr} {ta : TE} {t : TA} {pl : Sem Bool}
/-- the attribute's object, and that it can be called -/
def AttK (K : PySem.W.Frag) (m : Str) (g : Addr) (x : V) (H : Hp) (R : V → (Hp → Prop) → Prop) : Prop := ∃ a C dx fs b D, x = .ref a ∧ H a = some (.ins C dx fs) ∧ Cls K C ∧ NoAttr K C m ∧ fs.lookup m = some (.ref b) ∧ OwnM K D "__call__" g ∧ PySem.W.fnIn K g = true ∧
  R (.ref b) fun H2 => ∃ dy gs, H2 b = some (.ins D dy gs)
def tCallF (K : PySem.W.Frag) (m : Str) (g : Addr) (sp : Sp) (dvs : List V) (E : XK) (ta : TE) (t : TA) : TE := fun σ H Q => ta σ H fun x H1 => AttK K m g x H1 fun y st => t σ H1 fun vs H2 => st H2 ∧ sp (y :: (vs ++ dvs)) H2 Q E
theorem pe_callF (he : PE X o ta) (F : FnG X.prog X.w X.K X.mg X.base CX k g fd ps sp) (hr : RoomG k X.A) (hb : Binds X.K fd ps ds) (hd : Vals dvs ds) (hx : Passes CX X E) (ha : PA X (e :: es) t)
    (hst : starEach (e :: es) X.env = (false, eval e X.env) :: starEach es X.env := by rfl) (hpl : (backTo pos (starEach es X.env)).any (·.1) = false := by rfl) (ht : MethT X o m apos pos (e :: es) [] pl := by rfl) :
    PE X (.Call (.Attribute o m apos) (e :: es) [] pos) (tCallF X.K m g sp dvs E ta t) := by
  refine ⟨fun pins s σ H Q I h => PySem.W.methodCall_KW (pl := pl) (thn (he.run pins s σ H _ I h) fun u s1 ⟨x, H1, J, rx, a, C, dx, fs, b, D, ex, ea, c, na, l, ow, hfn, q⟩ => ?_) ht⟩
  subst ex
  cases (show u = Value.ref a from rx)
  obtain ⟨ox, od, _, I0⟩ := inst_of J ea
  refine PySem.W.method_usual J.kIn I0 (PySem.W.plainGet_of (c.get m)).1 (PySem.W.plainGet_of (c.get m)).2 na (by rfl) (getattr_ok J ea c na l fun u s2 J2 ru => ?_)
  cases (show u = Value.ref b from ru)
  have ar := thn (ha.run pos pins s2 σ H1 _ J2 q) (Q' := fun us s3 => Stand X.K b D s3.heap ∧ wpAny (model X.prog X.w) X.A (call (.ref b) us) (EP X pins σ Q) X.xe s3) fun us s3 ⟨vs, H2, J3, r, ⟨dy, gs, eb⟩, q2⟩ => by
    obtain ⟨oy, oe, hd', I3⟩ := inst_of J3 eb
    refine ⟨⟨J3.kIn, oy, oe, hd', I3⟩, wpAny_call (PySem.W.kco_code J3.kIn I3 hd' ow.at_ ow.fn hfn ?_)⟩
    have rv : Vals (V.ref b :: vs) (Value.ref b :: us) := .cons rfl r
    refine codeAny_mono (run_at (args := ⟨.ref b :: us, []⟩) (ws := .ref b :: us ++ ds) (vs := .ref b :: vs ++ dvs) F hr J3.env0 hx J3 (hb _ _ J3.kIn (len_of F hd rv q2)) (rv.append hd) q2) fun r s' hq => ?_
    · match r, hq with
      | .error _, hq => exact hq
      | .ok (.ret _), hq => exact hq
  show wpAny _ _ (callWith pos (.ref b) [] (backTo pos (starEach (e :: es) X.env)) []) _ _ _
  rw [hst] at ar ⊢
  exact callWithB (K := X.K) (C := D) (by show ((false || (backTo pos (starEach es X.env)).any (·.1)) || false) = false; rw [hpl]; rfl) (evalArgs_plain ar)
end
end G
namespace G
open PySem PySem.Spec PyProof.Rows L2
section
variable {g : TG} {tt : TT} {te : TE} {tl : TA} {ta : TE} {vs : List Nat} {σ σ0 : L2.St} {H H1 : Hp} {Q : VK} {K : PySem.W.Frag} {a : Addr} {m : Str} {f : Addr} {sp : Sp} {E : XK}
/-! a tuple gone through -/
def ITK (K : PySem.W.Frag) (x : V) (H : Hp) (R : It → Hp → Prop) : Prop := ∃ a, x = .ref a ∧ (∃ xs, SqT K H a xs) ∧ R (Itt K a) H
theorem st_iTup {R : It → Hp → Prop} (q : te σ H fun x H1 => ITK K x H1 R) : iTup K te σ H R := q
theorem st_iTK {xs : List V} {R : It → Hp → Prop} (h : SqT K H a xs) (q : R (Itt K a) H) : ITK K (.ref a) H R := ⟨a, rfl, ⟨xs, h⟩, q⟩
theorem lc_tupG {xs : List V} (Pv : Addr → Nat → Hp → Prop) (e : wipe σ vs = σ0) (h0 : ∀ D H2, H1 D = none → Kp H1 H2 → H2 D = some (.lst []) → Pv D 0 H2) (hl : ∀ D i H, i ≤ xs.length → Pv D i H → SqT K H a xs)
    (hs : ∀ D i x H, xs[i]? = some x → Pv D i H → g x σ0 H fun σ2 H2 => WipK vs σ2 σ0 (tt σ2 H2 fun b H3 => LcB b te D σ2 H3 (Pv D (i + 1)))) (hd : ∀ D H, Pv D xs.length H → Q (.ref D) H) : LcK (Itt K a) g tt te vs σ H1 Q := fun D hD => by
  subst e
  exact lc_tup (Pv D) (h0 D _ hD (Kp.new hD) upd_same) (hl D) (hs D) (hd D)
/-! all of some Bools -/
theorem all_l {bs : List Bool} (h : SqL K H a (bs.map V.bl)) (q : Q (.bl (bs.all id)) H) : rAll K [.ref a] H Q := ⟨a, bs, rfl, h, q⟩
/-! an attribute's object called -/
theorem st_callF (q : ta σ H fun x H1 => AttK K m f x H1 fun y st => tl σ H1 fun vs H2 => st H2 ∧ sp (y :: vs) H2 Q E) : tCallF K m f sp [] E ta tl σ H Q := by
  unfold tCallF
  simp only [List.append_nil]
  exact q
end
end G

/-! ### own lines (walk_at is the kit's own word with a key: these keys are ours) -/
-- a sequence in a later heap, by what is said of it as a sequence
local macro_rules | `(tactic| walk_at "hq") => `(tactic| first
  | assumption
  | (refine G.SqT.kp (by assumption) ?_; walk_at "hq")
  | (refine G.SqT.md (by assumption) ?_; walk_at "hq")
  | (refine G.SqL.kp (by assumption) ?_; walk_at "hq"))
-- a tracked object in a later heap
local macro_rules | `(tactic| walk_at "hp") => `(tactic| first
  | assumption
  | (refine G.SqT.kp (by assumption) ?_; walk_at "hq")
  | (refine G.SqT.md (by assumption) ?_; walk_at "hq")
  | (refine G.SqL.kp (by assumption) ?_; walk_at "hq")
  | (refine G.Kp.at (by assumption) ?_; walk_at "hp")
  | (refine G.Md.tup (by assumption) ?_; walk_at "hp")
  | (refine G.Md.ins (by assumption) ?_; walk_at "hp")
  | (refine G.Md.frz (by assumption) ?_; walk_at "hp")
  | (refine G.Md.lst (by assumption) ?_ (by first | assumption | (apply Ne.symm; assumption)); walk_at "hp")
  | (refine L2.SqT.of ?_; walk_at "hp")
  | (refine L2.SqL.of ?_; walk_at "hp")
  | (refine G.MD.ins (by assumption) ?_; walk_at "hp")
  | (refine G.MD.tup (by assumption) ?_; walk_at "hp")
  | (refine G.MD.lst (by assumption) ?_; walk_at "hp")
  | (refine G.Md.kp (by assumption) _ _ (by assumption) ?_; walk_at "hp")
  | (refine G.MD.atN (by assumption) (by assumption) ?_ ?_ <;> walk_at "hp"))
-- more rows of "hp": the claim's own
local macro_rules | `(tactic| walk_at "hpx") => `(tactic| fail "hpx")
-- a bound of an int
local macro_rules | `(tactic| walk_at "bd1") => `(tactic| first
  | assumption
  | ((with_reducible apply G.Bd.mul); walk_at "bd1"; walk_at "bd1")
  | ((with_reducible apply G.Bd.add); walk_at "bd1"; walk_at "bd1")
  | ((with_reducible apply G.Bd.sub); walk_at "bd1"; walk_at "bd1")
  | ((with_reducible apply G.Bd.neg); walk_at "bd1")
  | exact G.Bd.lit _)
local macro_rules | `(tactic| walk_at "bd") => `(tactic| ((fail_if_success (with_reducible show G.Bd _ 987654321987654321)); walk_at "bd1"))
local macro_rules | `(tactic| walk_at "bdw") => `(tactic| first | assumption | exact G.Bd.mono (by walk_at "bd") (by first | decide +kernel | omega))
-- a product's room
local macro_rules | `(tactic| walk_at "mu") => `(tactic| first
  | (exact G.mulOk (by walk_at "bd") (by walk_at "bd") (by first | decide +kernel | omega))
  | exact G.mulOkL (by omega)
  | exact G.mulOkR (by omega))
local macro_rules | `(tactic| walk_at "gx") => `(tactic| fail "gx")
-- one step of a reading
local macro_rules | `(tactic| walk_at "g") => `(tactic| first
  | walk_at "gx"
  | ((with_reducible refine G.st_var (v := ?z0) ?h ?_); (case h => rfl))
  | with_reducible refine G.st_c ?_
  | with_reducible refine G.st_op ?_
  | with_reducible refine G.st_un ?_
  | with_reducible refine G.st_seq ?_
  | with_reducible refine G.st_asg ?_
  | ((with_reducible refine G.st_aug (x := ?z0) ?h ?_); (case h => rfl))
  | ((with_reducible refine G.st_gname (σ' := ?z0) ?e ?_); (case e => (simp only [List.set_cons_zero, List.set_cons_succ]; rfl)))
  | with_reducible refine G.st_test ?_
  | with_reducible refine G.st_B ?_
  | with_reducible refine G.st_exbl ?_
  | with_reducible refine G.st_exblP ?_
  | with_reducible refine G.st_iteT ?_
  | with_reducible refine G.st_iteF ?_
  | with_reducible refine G.st_and ?_
  | with_reducible refine G.st_or ?_
  | with_reducible refine G.st_not ?_
  | with_reducible refine G.st_andV ?_
  | with_reducible refine G.st_orV ?_
  | with_reducible refine G.st_notV ?_
  | with_reducible refine G.st_ifE ?_
  | with_reducible refine G.st_ifS ?_
  | with_reducible refine G.st_nil ?_
  | with_reducible refine G.st_cons ?_
  | with_reducible refine G.st_tup ?_
  | with_reducible refine G.st_lst ?_
  | ((with_reducible refine G.st_tupK ?h ?_); (case h => (simp only [List.length_cons, List.length_nil]; omega)); intro _ _ _ _ _)
  | ((with_reducible refine G.st_lstK ?h ?_); (case h => (simp only [List.length_cons, List.length_nil]; omega)); intro _ _ _ _ _)
  | with_reducible refine G.st_call ?_
  | with_reducible refine G.st_sm ?_
  | with_reducible refine G.st_cb ?_
  | with_reducible refine G.st_meth ?_
  | with_reducible refine G.st_methK ?_
  | with_reducible refine G.st_fld ?_
  | with_reducible refine G.st_chain ?_
  | with_reducible refine G.add_ii ?_
  | with_reducible refine G.sub_ii ?_
  | ((with_reducible refine G.mul_ii ?h ?_); (case h => walk_at "mu"))
  | ((with_reducible refine G.div_ii ?h0 (by walk_at "bd") (by first | decide +kernel | omega) ?_); (case h0 => omega))
  | ((with_reducible refine G.mod_ii ?h0 ?_); (case h0 => omega))
  | ((with_reducible refine G.pow_ii (z := ?z0) ?h ?e ?_); (case h => (refine ⟨?_, ?_, ?_⟩ <;> omega)); (case e => ((simp only [Int.reduceToNat, Int.reducePow]); first | done | rfl)))
  | with_reducible refine G.neg_i ?_
  | with_reducible refine G.lt_ii ?_
  | with_reducible refine G.le_ii ?_
  | with_reducible refine G.gt_ii ?_
  | with_reducible refine G.ge_ii ?_
  | with_reducible refine G.eq_ii ?_
  | with_reducible refine G.eq_ss ?_
  | with_reducible refine G.eq_bb ?_
  | with_reducible refine G.ne_ii ?_
  | with_reducible refine G.ne_ss ?_
  | with_reducible refine G.ne_bb ?_
  | ((with_reducible refine G.eq_t2 (i0 := ?z0) (i1 := ?z1) (j0 := ?z2) (j1 := ?z3) ?h1 ?h2 ?_); (case h1 => walk_at "hp"); (case h2 => walk_at "hp"))
  | ((with_reducible refine G.ne_t2 (i0 := ?z0) (i1 := ?z1) (j0 := ?z2) (j1 := ?z3) ?h1 ?h2 ?_); (case h1 => walk_at "hp"); (case h2 => walk_at "hp"))
  | ((with_reducible refine G.in_s2 (s1 := ?z0) (s2 := ?z1) ?h1 ?_); (case h1 => walk_at "hp"))
  | ((with_reducible refine G.add_tt (xs := ?z0) (ys := ?z1) (zs := ?z2) ?h1 ?h2 ?n1 ?n2 ?l ?e ?_); (case h1 => walk_at "hp"); (case h2 => walk_at "hp"); (case n1 => (intro hz; cases hz)); (case n2 => (intro hz; cases hz)); (case l => (simp only [List.length_cons, List.length_nil]; omega)); (case e => (simp only [List.cons_append, List.nil_append]; rfl)); intro _ _ _ _ _)
  | with_reducible refine G.isN_n ?_
  | with_reducible refine G.notN_n ?_
  | with_reducible refine G.abs_i ?_
  | with_reducible refine G.int_i ?_
  | with_reducible refine G.int_b ?_
  | with_reducible refine G.bool_i ?_
  | with_reducible refine G.bool_b ?_
  | ((with_reducible refine G.len_l (xs := ?z0) ?h ?_); (case h => walk_at "hp"))
  | ((with_reducible refine G.len_t (xs := ?z0) ?h ?_); (case h => walk_at "hp"))
  | ((with_reducible refine G.list_l (xs := ?z0) ?h ?_); (case h => walk_at "hp"); intro _ _ _ _ _)
  | ((with_reducible refine G.list_t (xs := ?z0) ?h ?_); (case h => walk_at "hp"); intro _ _ _ _ _)
  | ((with_reducible refine' G.isi_ty ?ty ?h ?_); (case ty => first | exact .base (.int _) | exact .base (.str _) | exact .base (.bl _) | exact .base .non); (case h => first | exact L2.kit_ty (r := true) (by decide +kernel) | exact L2.kit_ty (r := false) (by decide +kernel) | assumption))
  | ((with_reducible refine G.ix_t (xs := ?z0) (v := ?z1) ?h ?e ?_); (case h => walk_at "hp"); (case e => rfl))
  | ((with_reducible refine G.ix_l (xs := ?z0) (v := ?z1) ?h ?e ?_); (case h => walk_at "hp"); (case e => rfl))
  | with_reducible refine G.st_sl ?_
  | with_reducible refine G.st_noPart ?_
  | with_reducible refine G.st_part ?_
  | with_reducible refine G.st_exint ?_
  | with_reducible refine G.st_exintP ?_
  | ((with_reducible refine G.sl_l (xs := ?z0) ?h ?_); (case h => walk_at "hp"); intro _ _ _ _ _)
  | with_reducible refine G.st_next ?_
  | with_reducible refine G.st_brk ?_
  | with_reducible refine G.st_cont ?_
  | with_reducible refine G.st_drop ?_
  | with_reducible refine G.st_ret ?_
  | with_reducible refine G.st_retN ?_
  | with_reducible refine G.st_par ?_
  | ((with_reducible refine G.st_parK (σ' := ?z0) ?e ?_); (case e => (simp only [List.set_cons_zero, List.set_cons_succ]; rfl)))
  | ((with_reducible refine G.st_gtup (xs := ?z0) ?h ?l ?_); (case h => walk_at "hp"); (case l => rfl))
  | ((with_reducible refine G.st_glst (xs := ?z0) ?h ?l ?_); (case h => walk_at "hp"); (case l => rfl))
  | with_reducible refine G.st_gcons ?_
  | with_reducible refine G.st_gnil ?_
  | with_reducible refine G.st_gsub ?_
  | ((with_reducible refine G.st_setL (xs := ?z0) (m := ?z1) (ys := ?z2) ?h ?l ?e ?_); (case h => walk_at "hp"); (case l => rfl); (case e => (simp only [Int.reduceToNat, List.set_cons_zero, List.set_cons_succ]; rfl)); intro _ _ _)
  | with_reducible refine G.st_setfld ?_
  | with_reducible refine G.st_bm ?_
  | ((with_reducible refine G.bm_list (xs := ?z0) ?h ?_); (case h => walk_at "hp"))
  | ((with_reducible refine G.append_l (xs := ?z0) ?h ?l ?_); (case h => walk_at "hp"); (case l => first | omega | assumption); intro _ _ _))
-- dicts
local macro_rules | `(tactic| walk_at "g") => `(tactic| first
  | ((with_reducible refine G.st_disp ?_); intro _ _ _ _ _)
  | with_reducible refine G.st_pairsN ?_
  | with_reducible refine G.st_pairsC ?_
  | ((with_reducible refine G.st_disp3 ?h ?_); (case h => walk_at "hp"); intro _ _ _)
  | with_reducible refine G.st_dget2 ?_
  | ((with_reducible refine G.st_dgK (kvs := ?z0) ?h ?_); (case h => walk_at "hp"))
  | ((with_reducible refine G.st_dgSs (kvs := ?z0) (v := ?z1) ?h ?e ?_); (case h => walk_at "hp"); (case e => rfl))
  | ((with_reducible refine G.st_dgSn (kvs := ?z0) ?h ?e ?_); (case h => walk_at "hp"); (case e => rfl))
  | ((with_reducible refine G.eq_l2b (i0 := ?z0) (i1 := ?z1) (j0 := ?z2) (j1 := ?z3) ?h1 ?h2 ?_); (case h1 => walk_at "hp"); (case h2 => walk_at "hp")))
-- a text's length
local macro_rules | `(tactic| walk_at "lb1") => `(tactic| first
  | assumption
  | ((with_reducible apply G.LB.app); walk_at "lb1"; walk_at "lb1")
  | exact G.LB.int (by walk_at "bd") (by first | decide +kernel | omega)
  | exact G.LB.lit _)
local macro_rules | `(tactic| walk_at "lb") => `(tactic| ((fail_if_success (with_reducible show G.LB _ ("zqx" : Str))); walk_at "lb1"))
-- texts, comprehensions, one rule or the other
local macro_rules | `(tactic| walk_at "g") => `(tactic| first
  | with_reducible refine G.st_jsC ?_
  | ((with_reducible refine G.st_jsK ?h ?_); (case h => exact G.LB.fits (by walk_at "lb") (by first | decide +kernel | omega)))
  | with_reducible refine G.st_jsN ?_
  | with_reducible refine G.st_fmt ?_
  | with_reducible refine G.fmt_i (by walk_at "bd") (by first | decide +kernel | omega) ?_
  | with_reducible refine G.fmt_s ?_ ?_
  | with_reducible refine G.str_i (by walk_at "bd") (by first | decide +kernel | omega) ?_
  | ((with_reducible refine G.add_ss ?h ?_); (case h => exact G.LB.two (by walk_at "lb") (by walk_at "lb") (by first | decide +kernel | omega)))
  | ((with_reducible refine' G.repr_t2 (i := ?z0) (j := ?z1) ?h ?b1 ?l1 ?b2 ?l2 ?_); (case h => walk_at "hp"); (case b1 => walk_at "bd"); (case b2 => walk_at "bd"); (case l1 => first | decide +kernel | omega); (case l2 => first | decide +kernel | omega))
  | with_reducible refine G.st_lc ?_
  | ((with_reducible refine G.st_app (acc := ?z0) ?h ?l ?_); (case h => walk_at "hp"); (case l => first | assumption | omega); intro _ _ _)
  | ((with_reducible refine G.st_wip ?h ?_); (case h => (simp only [List.map_cons, List.map_nil, L2.wipe, List.set_cons_zero, List.set_cons_succ])))
  | with_reducible refine G.st_lcT ?_
  | with_reducible refine G.st_yes ?_
  | ((with_reducible refine G.or_l ?_); walk_at "g")
  | ((with_reducible refine G.or_r ?_); walk_at "g")
  | ((with_reducible refine G.cor_l ?_); walk_at "g")
  | ((with_reducible refine G.cor_r ?_); walk_at "g")
  | ((with_reducible refine G.uor_l ?_); walk_at "g")
  | ((with_reducible refine G.uor_r ?_); walk_at "g"))
local macro_rules | `(tactic| walk_at "gl") => `(tactic| first
  | with_reducible refine G.st_whK ?_
  | with_reducible refine G.st_mk ?_
  | with_reducible refine G.st_for ?_
  | with_reducible refine G.st_iList ?_
  | ((with_reducible refine G.st_iLK (xs := ?z0) ?h ?_); (case h => walk_at "hp"))
  | with_reducible refine G.st_r1 ?_
  | with_reducible refine G.st_r2 ?_
  | ((with_reducible refine G.st_r1K ?h1 ?h2 ?_); (case h1 => omega); (case h2 => omega))
  | ((with_reducible refine G.st_r2K ?h ?_); (case h => (refine ⟨?_, ?_, ?_, ?_⟩ <;> omega))))
-- what a test says
local macro_rules | `(tactic| walk_at "gif") => `(tactic| ((with_reducible refine G.st_ite ?_ ?_) <;> (intro hc; (try simp only [decide_eq_true_eq, decide_eq_false_iff_not, Bool.not_eq_true', Bool.not_eq_false', Bool.and_eq_true, Bool.or_eq_true, Bool.and_eq_false_iff, Bool.or_eq_false_iff, Bool.not_true, Bool.not_false, bne_iff_ne, beq_iff_eq, ne_eq, not_true_eq_false, not_false_eq_true, Bool.false_eq_true, Bool.true_eq_false, reduceCtorEq] at hc); (try (exfalso; first | assumption | contradiction | omega)))))
local macro_rules | `(tactic| walk_at "start") => `(tactic| ((try dsimp only [L2.cxOf]); (with_reducible refine G.st_start (σ' := ?z0) ?e ?_); (case e => (unfold L2.start; simp only [List.map_cons, List.map_nil, List.length_cons, List.length_nil, Nat.reduceAdd, Nat.reduceSub, List.replicate, List.cons_append, List.nil_append]; rfl))))
-- as far as it goes
local macro_rules | `(tactic| walk_at "go") => `(tactic| repeat' first | walk_at "g" | walk_at "gl")
local macro_rules | `(tactic| walk_at "gob") => `(tactic| repeat' first | walk_at "g" | walk_at "gl" | walk_at "gif")
-- a way that cannot be
local macro_rules | `(tactic| walk_at "no") => `(tactic| first
  | (exfalso; omega)
  | (exfalso; simp_all; done)
  | (simp only [decide_eq_true_eq, decide_eq_false_iff_not, Bool.not_eq_true', Bool.not_eq_false', Bool.not_true, Bool.not_false] at *; exfalso; omega))
-- all is kept, over several steps; an address that was free
local macro_rules | `(tactic| walk_at "kp") => `(tactic| (intro _ _ _; walk_at "hp"))
local macro_rules | `(tactic| walk_at "fr") => `(tactic| first | assumption | (refine G.Kp.back (by assumption) ?_; walk_at "fr") | (refine G.Md.back (by assumption) ?_; walk_at "fr"))
-- one list changes, over several steps
local macro_rules | `(tactic| walk_at "mdf") => `(tactic| first | exact G.mdt_z | ((with_reducible apply G.mdt_k); assumption; walk_at "mdf") | ((with_reducible apply G.mdt_m); assumption; walk_at "mdf"))
local macro_rules | `(tactic| walk_at "mdt") => `(tactic| first | assumption | ((with_reducible apply G.mdt_go); assumption; walk_at "mdf") | ((with_reducible apply G.mdt_go); (apply G.mdt_s; assumption); walk_at "mdf"))
namespace Lw
open PySem PySem.Spec PyProof.Rows L2
def top (i : Nat) : Stmt := PySem.Challenge.pw_anyfifth_k37_heights.main.body.getD i (.Pass ⟨0, 0, 0, 0⟩)
abbrev s_is_integer : Stmt := top 2
abbrev a_is_integer (K : PySem.W.Frag) : Addr := He.ga K "is_integer"
def d_is_integer : He5.DefA := ⟨a_is_integer, "is_integer", "is_integer", defArgs s_is_integer, defBody s_is_integer, defScope s_is_integer, [], []⟩
abbrev s_is_between : Stmt := top 3
abbrev a_is_between (K : PySem.W.Frag) : Addr := He.ga K "is_between"
def d_is_between : He5.DefA := ⟨a_is_between, "is_between", "is_between", defArgs s_is_between, defBody s_is_between, defScope s_is_between, [], []⟩
abbrev s_common_divisor : Stmt := top 21
abbrev a_common_divisor (K : PySem.W.Frag) : Addr := He.ga K "common_divisor"
def d_common_divisor : He5.DefA := ⟨a_common_divisor, "common_divisor", "common_divisor", defArgs s_common_divisor, defBody s_common_divisor, defScope s_common_divisor, [], []⟩
abbrev s_parts_of : Stmt := top 26
abbrev a_parts_of (K : PySem.W.Frag) : Addr := He.ga K "parts_of"
def d_parts_of : He5.DefA := ⟨a_parts_of, "parts_of", "parts_of", defArgs s_parts_of, defBody s_parts_of, defScope s_parts_of, [], []⟩
abbrev s_need_divisor : Stmt := top 27
abbrev a_need_divisor (K : PySem.W.Frag) : Addr := He.ga K "need_divisor"
def d_need_divisor : He5.DefA := ⟨a_need_divisor, "need_divisor", "need_divisor", defArgs s_need_divisor, defBody s_need_divisor, defScope s_need_divisor, [], []⟩
abbrev s_Ratio_init : Stmt := inClass (top 28) 0
abbrev a_Ratio_init (K : PySem.W.Frag) : Addr := He.ma K (He.ga K "Ratio") "__init__"
def d_Ratio_init : He5.DefA := ⟨a_Ratio_init, "__init__", "Ratio.__init__", defArgs s_Ratio_init, defBody s_Ratio_init, defScope s_Ratio_init, [.int 1], []⟩
abbrev s_Ratio_is_number : Stmt := inClass (top 28) 1
abbrev a_Ratio_is_number (K : PySem.W.Frag) : Addr := G.smA "Ratio" "is_number" K
def d_Ratio_is_number : He5.DefA := ⟨a_Ratio_is_number, "is_number", "Ratio.is_number", defArgs s_Ratio_is_number, defBody s_Ratio_is_number, defScope s_Ratio_is_number, [], []⟩
abbrev s_Ratio_is_fifth : Stmt := inClass (top 28) 2
abbrev a_Ratio_is_fifth (K : PySem.W.Frag) : Addr := G.smA "Ratio" "is_fifth" K
def d_Ratio_is_fifth : He5.DefA := ⟨a_Ratio_is_fifth, "is_fifth", "Ratio.is_fifth", defArgs s_Ratio_is_fifth, defBody s_Ratio_is_fifth, defScope s_Ratio_is_fifth, [], []⟩
abbrev s_Ratio_add : Stmt := inClass (top 28) 8
abbrev a_Ratio_add (K : PySem.W.Frag) : Addr := He.ma K (He.ga K "Ratio") "__add__"
def d_Ratio_add : He5.DefA := ⟨a_Ratio_add, "__add__", "Ratio.__add__", defArgs s_Ratio_add, defBody s_Ratio_add, defScope s_Ratio_add, [], []⟩
abbrev s_Ratio_neg : Stmt := inClass (top 28) 10
abbrev a_Ratio_neg (K : PySem.W.Frag) : Addr := He.ma K (He.ga K "Ratio") "__neg__"
def d_Ratio_neg : He5.DefA := ⟨a_Ratio_neg, "__neg__", "Ratio.__neg__", defArgs s_Ratio_neg, defBody s_Ratio_neg, defScope s_Ratio_neg, [], []⟩
abbrev s_Ratio_rsub : Stmt := inClass (top 28) 12
abbrev a_Ratio_rsub (K : PySem.W.Frag) : Addr := He.ma K (He.ga K "Ratio") "__rsub__"
def d_Ratio_rsub : He5.DefA := ⟨a_Ratio_rsub, "__rsub__", "Ratio.__rsub__", defArgs s_Ratio_rsub, defBody s_Ratio_rsub, defScope s_Ratio_rsub, [], []⟩
abbrev s_Ratio_mul : Stmt := inClass (top 28) 13
abbrev a_Ratio_mul (K : PySem.W.Frag) : Addr := He.ma K (He.ga K "Ratio") "__mul__"
def d_Ratio_mul : He5.DefA := ⟨a_Ratio_mul, "__mul__", "Ratio.__mul__", defArgs s_Ratio_mul, defBody s_Ratio_mul, defScope s_Ratio_mul, [], []⟩
abbrev s_Ratio_rmul : Stmt := inClass (top 28) 14
abbrev a_Ratio_rmul (K : PySem.W.Frag) : Addr := He.ma K (He.ga K "Ratio") "__rmul__"
def d_Ratio_rmul : He5.DefA := ⟨a_Ratio_rmul, "__rmul__", "Ratio.__rmul__", defArgs s_Ratio_rmul, defBody s_Ratio_rmul, defScope s_Ratio_rmul, [], []⟩
abbrev s_Ratio_eq : Stmt := inClass (top 28) 24
abbrev a_Ratio_eq (K : PySem.W.Frag) : Addr := He.ma K (He.ga K "Ratio") "__eq__"
def d_Ratio_eq : He5.DefA := ⟨a_Ratio_eq, "__eq__", "Ratio.__eq__", defArgs s_Ratio_eq, defBody s_Ratio_eq, defScope s_Ratio_eq, [], []⟩
abbrev s_is_fifth : Stmt := top 30
abbrev a_is_fifth (K : PySem.W.Frag) : Addr := He.ga K "is_fifth"
def d_is_fifth : He5.DefA := ⟨a_is_fifth, "is_fifth", "is_fifth", defArgs s_is_fifth, defBody s_is_fifth, defScope s_is_fifth, [], []⟩
abbrev s_need_fifth : Stmt := top 31
abbrev a_need_fifth (K : PySem.W.Frag) : Addr := He.ga K "need_fifth"
def d_need_fifth : He5.DefA := ⟨a_need_fifth, "need_fifth", "need_fifth", defArgs s_need_fifth, defBody s_need_fifth, defScope s_need_fifth, [], []⟩
abbrev s_key_of : Stmt := top 32
abbrev a_key_of (K : PySem.W.Frag) : Addr := He.ga K "key_of"
def d_key_of : He5.DefA := ⟨a_key_of, "key_of", "key_of", defArgs s_key_of, defBody s_key_of, defScope s_key_of, [], []⟩
abbrev s_Tone_init : Stmt := inClass (top 66) 0
abbrev a_Tone_init (K : PySem.W.Frag) : Addr := He.ma K (He.ga K "Tone") "__init__"
def d_Tone_init : He5.DefA := ⟨a_Tone_init, "__init__", "Tone.__init__", defArgs s_Tone_init, defBody s_Tone_init, defScope s_Tone_init, [.int 0], []⟩
abbrev s_Tone_pitch_at : Stmt := inClass (top 66) 2
abbrev a_Tone_pitch_at (K : PySem.W.Frag) : Addr := He.ma K (He.ga K "Tone") "pitch_at"
def d_Tone_pitch_at : He5.DefA := ⟨a_Tone_pitch_at, "pitch_at", "Tone.pitch_at", defArgs s_Tone_pitch_at, defBody s_Tone_pitch_at, defScope s_Tone_pitch_at, [], []⟩
abbrev s_Tone_call : Stmt := inClass (top 66) 3
abbrev a_Tone_call (K : PySem.W.Frag) : Addr := He.ma K (He.ga K "Tone") "__call__"
def d_Tone_call : He5.DefA := ⟨a_Tone_call, "__call__", "Tone.__call__", defArgs s_Tone_call, defBody s_Tone_call, defScope s_Tone_call, [], []⟩
abbrev s_Tone_eq : Stmt := inClass (top 66) 10
abbrev a_Tone_eq (K : PySem.W.Frag) : Addr := He.ma K (He.ga K "Tone") "__eq__"
def d_Tone_eq : He5.DefA := ⟨a_Tone_eq, "__eq__", "Tone.__eq__", defArgs s_Tone_eq, defBody s_Tone_eq, defScope s_Tone_eq, [], []⟩
abbrev s_need_note : Stmt := top 70
abbrev a_need_note (K : PySem.W.Frag) : Addr := He.ga K "need_note"
def d_need_note : He5.DefA := ⟨a_need_note, "need_note", "need_note", defArgs s_need_note, defBody s_need_note, defScope s_need_note, [], []⟩
abbrev s_Term_init : Stmt := inClass (top 71) 1
abbrev a_Term_init (K : PySem.W.Frag) : Addr := He.ma K (He.ga K "Term") "__init__"
def d_Term_init : He5.DefA := ⟨a_Term_init, "__init__", "Term.__init__", defArgs s_Term_init, defBody s_Term_init, defScope s_Term_init, [], []⟩
abbrev s_Term_is_moving : Stmt := inClass (top 71) 2
abbrev a_Term_is_moving (K : PySem.W.Frag) : Addr := G.prA "Term" "is_moving" K
def d_Term_is_moving : He5.DefA := ⟨a_Term_is_moving, "is_moving", "Term.is_moving", defArgs s_Term_is_moving, defBody s_Term_is_moving, defScope s_Term_is_moving, [], []⟩
abbrev s_Term_note : Stmt := inClass (top 71) 3
abbrev a_Term_note (K : PySem.W.Frag) : Addr := He.ma K (He.ga K "Term") "note"
def d_Term_note : He5.DefA := ⟨a_Term_note, "note", "Term.note", defArgs s_Term_note, defBody s_Term_note, defScope s_Term_note, [], []⟩
abbrev s_Term_position : Stmt := inClass (top 71) 4
abbrev a_Term_position (K : PySem.W.Frag) : Addr := He.ma K (He.ga K "Term") "position"
def d_Term_position : He5.DefA := ⟨a_Term_position, "position", "Term.position", defArgs s_Term_position, defBody s_Term_position, defScope s_Term_position, [], []⟩
abbrev s_Term_with_number : Stmt := inClass (top 71) 5
abbrev a_Term_with_number (K : PySem.W.Frag) : Addr := He.ma K (He.ga K "Term") "with_number"
def d_Term_with_number : He5.DefA := ⟨a_Term_with_number, "with_number", "Term.with_number", defArgs s_Term_with_number, defBody s_Term_with_number, defScope s_Term_with_number, [], []⟩
abbrev s_Term_moved : Stmt := inClass (top 71) 6
abbrev a_Term_moved (K : PySem.W.Frag) : Addr := He.ma K (He.ga K "Term") "moved"
def d_Term_moved : He5.DefA := ⟨a_Term_moved, "moved", "Term.moved", defArgs s_Term_moved, defBody s_Term_moved, defScope s_Term_moved, [], []⟩
abbrev s_Term_mirrored : Stmt := inClass (top 71) 7
abbrev a_Term_mirrored (K : PySem.W.Frag) : Addr := He.ma K (He.ga K "Term") "mirrored"
def d_Term_mirrored : He5.DefA := ⟨a_Term_mirrored, "mirrored", "Term.mirrored", defArgs s_Term_mirrored, defBody s_Term_mirrored, defScope s_Term_mirrored, [], []⟩
abbrev s_Term_eq : Stmt := inClass (top 71) 8
abbrev a_Term_eq (K : PySem.W.Frag) : Addr := He.ma K (He.ga K "Term") "__eq__"
def d_Term_eq : He5.DefA := ⟨a_Term_eq, "__eq__", "Term.__eq__", defArgs s_Term_eq, defBody s_Term_eq, defScope s_Term_eq, [], []⟩
abbrev s_is_small : Stmt := top 74
abbrev a_is_small (K : PySem.W.Frag) : Addr := He.ga K "is_small"
def d_is_small : He5.DefA := ⟨a_is_small, "is_small", "is_small", defArgs s_is_small, defBody s_is_small, defScope s_is_small, [], []⟩
abbrev s_Height_init : Stmt := inClass (top 75) 0
abbrev a_Height_init (K : PySem.W.Frag) : Addr := He.ma K (He.ga K "Height") "__init__"
def d_Height_init : He5.DefA := ⟨a_Height_init, "__init__", "Height.__init__", defArgs s_Height_init, defBody s_Height_init, defScope s_Height_init, [], []⟩
abbrev s_Height_pitch : Stmt := inClass (top 75) 1
abbrev a_Height_pitch (K : PySem.W.Frag) : Addr := He.ma K (He.ga K "Height") "pitch"
def d_Height_pitch : He5.DefA := ⟨a_Height_pitch, "pitch", "Height.pitch", defArgs s_Height_pitch, defBody s_Height_pitch, defScope s_Height_pitch, [], []⟩
abbrev s_Height_moved : Stmt := inClass (top 75) 3
abbrev a_Height_moved (K : PySem.W.Frag) : Addr := He.ma K (He.ga K "Height") "moved"
def d_Height_moved : He5.DefA := ⟨a_Height_moved, "moved", "Height.moved", defArgs s_Height_moved, defBody s_Height_moved, defScope s_Height_moved, [], []⟩
abbrev s_Height_mirrored : Stmt := inClass (top 75) 4
abbrev a_Height_mirrored (K : PySem.W.Frag) : Addr := He.ma K (He.ga K "Height") "mirrored"
def d_Height_mirrored : He5.DefA := ⟨a_Height_mirrored, "mirrored", "Height.mirrored", defArgs s_Height_mirrored, defBody s_Height_mirrored, defScope s_Height_mirrored, [], []⟩
abbrev s_Height_eq : Stmt := inClass (top 75) 5
abbrev a_Height_eq (K : PySem.W.Frag) : Addr := He.ma K (He.ga K "Height") "__eq__"
def d_Height_eq : He5.DefA := ⟨a_Height_eq, "__eq__", "Height.__eq__", defArgs s_Height_eq, defBody s_Height_eq, defScope s_Height_eq, [], []⟩
abbrev s_law_pen : Stmt := top 77
abbrev a_law_pen (K : PySem.W.Frag) : Addr := He.ga K "_law_pen"
def d_law_pen : He5.DefA := ⟨a_law_pen, "_law_pen", "_law_pen", defArgs s_law_pen, defBody s_law_pen, defScope s_law_pen, [], []⟩
abbrev s_law_draw : Stmt := top 78
abbrev a_law_draw (K : PySem.W.Frag) : Addr := He.ga K "_law_draw"
def d_law_draw : He5.DefA := ⟨a_law_draw, "_law_draw", "_law_draw", defArgs s_law_draw, defBody s_law_draw, defScope s_law_draw, [], []⟩
abbrev s_law_pick : Stmt := top 79
abbrev a_law_pick (K : PySem.W.Frag) : Addr := He.ga K "_law_pick"
def d_law_pick : He5.DefA := ⟨a_law_pick, "_law_pick", "_law_pick", defArgs s_law_pick, defBody s_law_pick, defScope s_law_pick, [], []⟩
abbrev s_law_fraction : Stmt := top 80
abbrev a_law_fraction (K : PySem.W.Frag) : Addr := He.ga K "_law_fraction"
def d_law_fraction : He5.DefA := ⟨a_law_fraction, "_law_fraction", "_law_fraction", defArgs s_law_fraction, defBody s_law_fraction, defScope s_law_fraction, [], []⟩
abbrev s_law_number : Stmt := top 81
abbrev a_law_number (K : PySem.W.Frag) : Addr := He.ga K "_law_number"
def d_law_number : He5.DefA := ⟨a_law_number, "_law_number", "_law_number", defArgs s_law_number, defBody s_law_number, defScope s_law_number, [], []⟩
abbrev s_law_term : Stmt := top 82
abbrev a_law_term (K : PySem.W.Frag) : Addr := He.ga K "_law_term"
def d_law_term : He5.DefA := ⟨a_law_term, "_law_term", "_law_term", defArgs s_law_term, defBody s_law_term, defScope s_law_term, [], []⟩
abbrev s_law_real_term : Stmt := top 83
abbrev a_law_real_term (K : PySem.W.Frag) : Addr := He.ga K "_law_real_term"
def d_law_real_term : He5.DefA := ⟨a_law_real_term, "_law_real_term", "_law_real_term", defArgs s_law_real_term, defBody s_law_real_term, defScope s_law_real_term, [], []⟩
abbrev s_law_tone : Stmt := top 84
abbrev a_law_tone (K : PySem.W.Frag) : Addr := He.ga K "_law_tone"
def d_law_tone : He5.DefA := ⟨a_law_tone, "_law_tone", "_law_tone", defArgs s_law_tone, defBody s_law_tone, defScope s_law_tone, [], []⟩
abbrev s_law_real_height : Stmt := top 85
abbrev a_law_real_height (K : PySem.W.Frag) : Addr := He.ga K "_law_real_height"
def d_law_real_height : He5.DefA := ⟨a_law_real_height, "_law_real_height", "_law_real_height", defArgs s_law_real_height, defBody s_law_real_height, defScope s_law_real_height, [], []⟩
abbrev s_law_key : Stmt := top 86
abbrev a_law_key (K : PySem.W.Frag) : Addr := He.ga K "_law_key"
def d_law_key : He5.DefA := ⟨a_law_key, "_law_key", "_law_key", defArgs s_law_key, defBody s_law_key, defScope s_law_key, [], []⟩
abbrev s_law_pitch_right : Stmt := top 87
abbrev a_law_pitch_right (K : PySem.W.Frag) : Addr := He.ga K "_law_pitch_right"
def d_law_pitch_right : He5.DefA := ⟨a_law_pitch_right, "_law_pitch_right", "_law_pitch_right", defArgs s_law_pitch_right, defBody s_law_pitch_right, defScope s_law_pitch_right, [], []⟩
abbrev s_law_kept_right : Stmt := top 88
abbrev a_law_kept_right (K : PySem.W.Frag) : Addr := He.ga K "_law_kept_right"
def d_law_kept_right : He5.DefA := ⟨a_law_kept_right, "_law_kept_right", "_law_kept_right", defArgs s_law_kept_right, defBody s_law_kept_right, defScope s_law_kept_right, [], []⟩
abbrev s_law : Stmt := top 89
abbrev a_law (K : PySem.W.Frag) : Addr := He.ga K "law"
def d_law : He5.DefA := ⟨a_law, "law", "law", defArgs s_law, defBody s_law, defScope s_law, [], []⟩
def fns : List He5.DefA := [d_is_integer, d_is_between, d_common_divisor, d_parts_of, d_need_divisor, d_Ratio_init, d_Ratio_is_number, d_Ratio_is_fifth, d_Ratio_add, d_Ratio_neg, d_Ratio_rsub, d_Ratio_mul, d_Ratio_rmul, d_Ratio_eq, d_is_fifth, d_need_fifth, d_key_of, d_Tone_init, d_Tone_pitch_at, d_Tone_call, d_Tone_eq, d_need_note, d_Term_init, d_Term_is_moving, d_Term_note, d_Term_position, d_Term_with_number, d_Term_moved, d_Term_mirrored, d_Term_eq, d_is_small, d_Height_init, d_Height_pitch, d_Height_moved, d_Height_mirrored, d_Height_eq, d_law_pen, d_law_draw, d_law_pick, d_law_fraction, d_law_number, d_law_term, d_law_real_term, d_law_tone, d_law_real_height, d_law_key, d_law_pitch_right, d_law_kept_right, d_law]
def exs : List G.ExB := [G.gloB "is_integer", G.gloB "is_between", G.gloB "common_divisor", G.gloB "parts_of", G.gloB "need_divisor", G.gloB "is_fifth", G.gloB "need_fifth", G.gloB "key_of", G.gloB "need_note", G.gloB "is_small", G.gloB "_law_pen", G.gloB "_law_draw", G.gloB "_law_pick", G.gloB "_law_fraction", G.gloB "_law_number", G.gloB "_law_term", G.gloB "_law_real_term", G.gloB "_law_tone", G.gloB "_law_real_height", G.gloB "_law_key", G.gloB "_law_pitch_right", G.gloB "_law_kept_right", G.gloB "law", G.gloB "Ratio", G.clsB "Ratio", G.isiB "Ratio", G.rdB "Ratio", G.mkrB "Ratio", G.gloB "Tone", G.clsB "Tone", G.isiB "Tone", G.rdB "Tone", G.mkrB "Tone", G.gloB "Term", G.clsB "Term", G.isiB "Term", G.rdB "Term", G.mkrB "Term", G.gloB "Note", G.clsB "Note", G.isiB "Note", G.rdB "Note", G.gloB "Moving", G.clsB "Moving", G.isiB "Moving", G.rdB "Moving", G.gloB "Height", G.clsB "Height", G.isiB "Height", G.rdB "Height", G.mkrB "Height", G.smB "Ratio" "is_number", G.smB "Ratio" "is_fifth", G.ownB "Ratio" "__add__", G.ownB "Ratio" "__neg__", G.ownB "Ratio" "__rsub__", G.ownB "Ratio" "__mul__", G.ownB "Ratio" "__rmul__", G.ownB "Ratio" "__eq__", G.methB "Tone" "pitch_at", G.ownB "Tone" "__call__", G.ownB "Tone" "__eq__", G.prB "Term" "is_moving", G.methB "Term" "note", G.methB "Term" "position", G.methB "Term" "with_number", G.methB "Term" "moved", G.methB "Term" "mirrored", G.ownB "Term" "__eq__", G.methB "Height" "pitch", G.methB "Height" "moved", G.methB "Height" "mirrored", G.ownB "Height" "__eq__", G.noatB "Ratio" "top", G.noatB "Ratio" "bottom", G.noatB "Tone" "octaves", G.noatB "Tone" "fifths", G.noatB "Note" "number", G.noatB "Moving" "number", G.noatB "Height" "tone", G.noatB "Height" "term", G.freB "isinstance", G.freB "int", G.freB "bool", G.freB "abs", G.freB "len", G.freB "range", G.freB "list", G.freB "all", G.opB "Ratio" "add", G.intB "Ratio" "add", G.noIB "Ratio" "add", G.opB "Ratio" "sub", G.intB "Ratio" "sub", G.noIB "Ratio" "sub", G.opB "Ratio" "mul", G.intB "Ratio" "mul", G.noIB "Ratio" "mul", G.neB "Ratio", G.neB "Tone", G.neB "Height", G.inhB "Note" "Term" "__init__", G.mkrB "Note", G.prB "Note" "is_moving", G.inhP "Note" "Term" "is_moving", G.inhB "Note" "Term" "note", G.methB "Note" "note", G.inhB "Note" "Term" "position", G.methB "Note" "position", G.inhB "Note" "Term" "with_number", G.methB "Note" "with_number", G.inhB "Note" "Term" "moved", G.methB "Note" "moved", G.inhB "Note" "Term" "mirrored", G.methB "Note" "mirrored", G.inhB "Note" "Term" "__eq__", G.ownB "Note" "__eq__", G.neB "Note", G.inhB "Moving" "Term" "__init__", G.mkrB "Moving", G.prB "Moving" "is_moving", G.inhP "Moving" "Term" "is_moving", G.inhB "Moving" "Term" "note", G.methB "Moving" "note", G.inhB "Moving" "Term" "position", G.methB "Moving" "position", G.inhB "Moving" "Term" "with_number", G.methB "Moving" "with_number", G.inhB "Moving" "Term" "moved", G.methB "Moving" "moved", G.inhB "Moving" "Term" "mirrored", G.methB "Moving" "mirrored", G.inhB "Moving" "Term" "__eq__", G.ownB "Moving" "__eq__", G.neB "Moving", G.gintB "MOST_NUMBER" (12), G.gintB "MOST_TONE" (20), G.kitB (fun _ => .type "int") "Ratio" false, G.kitB (fun K => .ref (He.ga K "Ratio")) "Ratio" true, G.nfB "Ratio" (fun K => .ref (He.ga K "Ratio")), G.nfB "Ratio" (fun _ => .type "int"), G.kitB (fun _ => .type "int") "Term" false, G.nfB "Note" (fun _ => .type "int"), G.nfB "Moving" (fun _ => .type "int"), G.kitB (fun _ => .type "str") "Term" false, G.nfB "Note" (fun _ => .type "str"), G.nfB "Moving" (fun _ => .type "str"), G.kitB (fun _ => .type "NoneType") "Term" false, G.nfB "Note" (fun _ => .type "NoneType"), G.nfB "Moving" (fun _ => .type "NoneType"), G.kitB (fun _ => .type "tuple") "Term" false, G.nfB "Note" (fun _ => .type "tuple"), G.nfB "Moving" (fun _ => .type "tuple"), G.kitB (fun _ => .type "list") "Term" false, G.nfB "Note" (fun _ => .type "list"), G.nfB "Moving" (fun _ => .type "list"), G.kitB (fun K => .ref (He.ga K "Tone")) "Term" false, G.nfB "Note" (fun K => .ref (He.ga K "Tone")), G.nfB "Moving" (fun K => .ref (He.ga K "Tone")), G.kitB (fun K => .ref (He.ga K "Note")) "Term" true, G.kitB (fun K => .ref (He.ga K "Note")) "Tone" false, G.kitB (fun K => .ref (He.ga K "Note")) "Note" true, G.nfB "Note" (fun K => .ref (He.ga K "Note")), G.kitB (fun K => .ref (He.ga K "Note")) "Moving" false, G.nfB "Note" (fun K => .ref (He.ga K "Moving")), G.kitB (fun K => .ref (He.ga K "Moving")) "Term" true, G.kitB (fun K => .ref (He.ga K "Moving")) "Tone" false, G.kitB (fun K => .ref (He.ga K "Moving")) "Note" false, G.nfB "Moving" (fun K => .ref (He.ga K "Note")), G.kitB (fun K => .ref (He.ga K "Moving")) "Moving" true, G.nfB "Moving" (fun K => .ref (He.ga K "Moving")), G.noIntB "Ratio", G.conB "Note" "MOVES" 0, G.conB "Moving" "MOVES" 1, G.kitB (fun K => .ref (He.ga K "Tone")) "Tone" true, G.nfB "Tone" (fun K => .ref (He.ga K "Tone")), G.kitB (fun K => .ref (He.ga K "Height")) "Height" true, G.nfB "Height" (fun K => .ref (He.ga K "Height")), G.kitB (fun _ => .type "int") "Height" false, G.nfB "Height" (fun _ => .type "int"), G.kitB (fun _ => .type "NoneType") "Height" false, G.nfB "Height" (fun _ => .type "NoneType"), G.kitB (fun _ => .type "tuple") "Height" false, G.nfB "Height" (fun _ => .type "tuple"), G.kitB (fun K => .ref (He.ga K "Tone")) "Height" false, G.nfB "Height" (fun K => .ref (He.ga K "Tone")), G.kitB (fun K => .ref (He.ga K "Note")) "Height" false, G.nfB "Height" (fun K => .ref (He.ga K "Note")), G.kitB (fun K => .ref (He.ga K "Moving")) "Height" false, G.nfB "Height" (fun K => .ref (He.ga K "Moving")), (fun K => PySem.W.fnIn K (He.ma K (He.ga K "Tone") "__call__"))]
abbrev Tx (K : PySem.W.Frag) (mg : Str → Option Value) : Prop := G.Txt exs fns K mg
section
variable {K : PySem.W.Frag} {mg : Str → Option Value} (T : Tx K mg)
include T
theorem gl_is_integer : mg "is_integer" = some (.ref (He.ga K "is_integer")) := T.gl 0 "is_integer"
theorem gl_is_between : mg "is_between" = some (.ref (He.ga K "is_between")) := T.gl 1 "is_between"
theorem gl_common_divisor : mg "common_divisor" = some (.ref (He.ga K "common_divisor")) := T.gl 2 "common_divisor"
theorem gl_parts_of : mg "parts_of" = some (.ref (He.ga K "parts_of")) := T.gl 3 "parts_of"
theorem gl_need_divisor : mg "need_divisor" = some (.ref (He.ga K "need_divisor")) := T.gl 4 "need_divisor"
theorem gl_is_fifth : mg "is_fifth" = some (.ref (He.ga K "is_fifth")) := T.gl 5 "is_fifth"
theorem gl_need_fifth : mg "need_fifth" = some (.ref (He.ga K "need_fifth")) := T.gl 6 "need_fifth"
theorem gl_key_of : mg "key_of" = some (.ref (He.ga K "key_of")) := T.gl 7 "key_of"
theorem gl_need_note : mg "need_note" = some (.ref (He.ga K "need_note")) := T.gl 8 "need_note"
theorem gl_is_small : mg "is_small" = some (.ref (He.ga K "is_small")) := T.gl 9 "is_small"
theorem gl_law_pen : mg "_law_pen" = some (.ref (He.ga K "_law_pen")) := T.gl 10 "_law_pen"
theorem gl_law_draw : mg "_law_draw" = some (.ref (He.ga K "_law_draw")) := T.gl 11 "_law_draw"
theorem gl_law_pick : mg "_law_pick" = some (.ref (He.ga K "_law_pick")) := T.gl 12 "_law_pick"
theorem gl_law_fraction : mg "_law_fraction" = some (.ref (He.ga K "_law_fraction")) := T.gl 13 "_law_fraction"
theorem gl_law_number : mg "_law_number" = some (.ref (He.ga K "_law_number")) := T.gl 14 "_law_number"
theorem gl_law_term : mg "_law_term" = some (.ref (He.ga K "_law_term")) := T.gl 15 "_law_term"
theorem gl_law_real_term : mg "_law_real_term" = some (.ref (He.ga K "_law_real_term")) := T.gl 16 "_law_real_term"
theorem gl_law_tone : mg "_law_tone" = some (.ref (He.ga K "_law_tone")) := T.gl 17 "_law_tone"
theorem gl_law_real_height : mg "_law_real_height" = some (.ref (He.ga K "_law_real_height")) := T.gl 18 "_law_real_height"
theorem gl_law_key : mg "_law_key" = some (.ref (He.ga K "_law_key")) := T.gl 19 "_law_key"
theorem gl_law_pitch_right : mg "_law_pitch_right" = some (.ref (He.ga K "_law_pitch_right")) := T.gl 20 "_law_pitch_right"
theorem gl_law_kept_right : mg "_law_kept_right" = some (.ref (He.ga K "_law_kept_right")) := T.gl 21 "_law_kept_right"
theorem gl_law : mg "law" = some (.ref (He.ga K "law")) := T.gl 22 "law"
theorem gl_Ratio : mg "Ratio" = some (.ref (He.ga K "Ratio")) := T.gl 23 "Ratio"
theorem cl_Ratio : Cls K (He.ga K "Ratio") := He.cls_ok (T.fact 24)
theorem is_Ratio : G.IsiC K (He.ga K "Ratio") := G.isiB_ok (T.fact 25)
theorem rd_Ratio : ClX.CRead K (He.ga K "Ratio") (.type "type") := G.rdB_ok (T.fact 26)
theorem mk_Ratio : Mk K (He.ga K "Ratio") (a_Ratio_init K) := He.mkr_ok (T.fact 27)
theorem gl_Tone : mg "Tone" = some (.ref (He.ga K "Tone")) := T.gl 28 "Tone"
theorem cl_Tone : Cls K (He.ga K "Tone") := He.cls_ok (T.fact 29)
theorem is_Tone : G.IsiC K (He.ga K "Tone") := G.isiB_ok (T.fact 30)
theorem rd_Tone : ClX.CRead K (He.ga K "Tone") (.type "type") := G.rdB_ok (T.fact 31)
theorem mk_Tone : Mk K (He.ga K "Tone") (a_Tone_init K) := He.mkr_ok (T.fact 32)
theorem gl_Term : mg "Term" = some (.ref (He.ga K "Term")) := T.gl 33 "Term"
theorem cl_Term : Cls K (He.ga K "Term") := He.cls_ok (T.fact 34)
theorem is_Term : G.IsiC K (He.ga K "Term") := G.isiB_ok (T.fact 35)
theorem rd_Term : ClX.CRead K (He.ga K "Term") (.type "type") := G.rdB_ok (T.fact 36)
theorem mk_Term : Mk K (He.ga K "Term") (a_Term_init K) := He.mkr_ok (T.fact 37)
theorem gl_Note : mg "Note" = some (.ref (He.ga K "Note")) := T.gl 38 "Note"
theorem cl_Note : Cls K (He.ga K "Note") := He.cls_ok (T.fact 39)
theorem is_Note : G.IsiC K (He.ga K "Note") := G.isiB_ok (T.fact 40)
theorem rd_Note : ClX.CRead K (He.ga K "Note") (.type "type") := G.rdB_ok (T.fact 41)
theorem gl_Moving : mg "Moving" = some (.ref (He.ga K "Moving")) := T.gl 42 "Moving"
theorem cl_Moving : Cls K (He.ga K "Moving") := He.cls_ok (T.fact 43)
theorem is_Moving : G.IsiC K (He.ga K "Moving") := G.isiB_ok (T.fact 44)
theorem rd_Moving : ClX.CRead K (He.ga K "Moving") (.type "type") := G.rdB_ok (T.fact 45)
theorem gl_Height : mg "Height" = some (.ref (He.ga K "Height")) := T.gl 46 "Height"
theorem cl_Height : Cls K (He.ga K "Height") := He.cls_ok (T.fact 47)
theorem is_Height : G.IsiC K (He.ga K "Height") := G.isiB_ok (T.fact 48)
theorem rd_Height : ClX.CRead K (He.ga K "Height") (.type "type") := G.rdB_ok (T.fact 49)
theorem mk_Height : Mk K (He.ga K "Height") (a_Height_init K) := He.mkr_ok (T.fact 50)
theorem sm_Ratio_is_number : G.SMet K (He.ga K "Ratio") (.type "type") "is_number" (a_Ratio_is_number K) := G.smB_ok (T.fact 51)
theorem sm_Ratio_is_fifth : G.SMet K (He.ga K "Ratio") (.type "type") "is_fifth" (a_Ratio_is_fifth K) := G.smB_ok (T.fact 52)
theorem ow_Ratio_add : G.OwnM K (He.ga K "Ratio") "__add__" (a_Ratio_add K) := G.ownB_ok (T.fact 53)
theorem ow_Ratio_neg : G.OwnM K (He.ga K "Ratio") "__neg__" (a_Ratio_neg K) := G.ownB_ok (T.fact 54)
theorem ow_Ratio_rsub : G.OwnM K (He.ga K "Ratio") "__rsub__" (a_Ratio_rsub K) := G.ownB_ok (T.fact 55)
theorem ow_Ratio_mul : G.OwnM K (He.ga K "Ratio") "__mul__" (a_Ratio_mul K) := G.ownB_ok (T.fact 56)
theorem ow_Ratio_rmul : G.OwnM K (He.ga K "Ratio") "__rmul__" (a_Ratio_rmul K) := G.ownB_ok (T.fact 57)
theorem ow_Ratio_eq : G.OwnM K (He.ga K "Ratio") "__eq__" (a_Ratio_eq K) := G.ownB_ok (T.fact 58)
theorem me_Tone_pitch_at : Meth K (He.ga K "Tone") "pitch_at" (a_Tone_pitch_at K) := He.meth_ok (T.fact 59)
theorem ow_Tone_call : G.OwnM K (He.ga K "Tone") "__call__" (a_Tone_call K) := G.ownB_ok (T.fact 60)
theorem ow_Tone_eq : G.OwnM K (He.ga K "Tone") "__eq__" (a_Tone_eq K) := G.ownB_ok (T.fact 61)
theorem pr_Term_is_moving : L2.PropOf K (He.ga K "Term") "is_moving" (He.ma K (He.ga K "Term") "is_moving") (a_Term_is_moving K) := G.prB_ok (T.fact 62)
theorem me_Term_note : Meth K (He.ga K "Term") "note" (a_Term_note K) := He.meth_ok (T.fact 63)
theorem me_Term_position : Meth K (He.ga K "Term") "position" (a_Term_position K) := He.meth_ok (T.fact 64)
theorem me_Term_with_number : Meth K (He.ga K "Term") "with_number" (a_Term_with_number K) := He.meth_ok (T.fact 65)
theorem me_Term_moved : Meth K (He.ga K "Term") "moved" (a_Term_moved K) := He.meth_ok (T.fact 66)
theorem me_Term_mirrored : Meth K (He.ga K "Term") "mirrored" (a_Term_mirrored K) := He.meth_ok (T.fact 67)
theorem ow_Term_eq : G.OwnM K (He.ga K "Term") "__eq__" (a_Term_eq K) := G.ownB_ok (T.fact 68)
theorem me_Height_pitch : Meth K (He.ga K "Height") "pitch" (a_Height_pitch K) := He.meth_ok (T.fact 69)
theorem me_Height_moved : Meth K (He.ga K "Height") "moved" (a_Height_moved K) := He.meth_ok (T.fact 70)
theorem me_Height_mirrored : Meth K (He.ga K "Height") "mirrored" (a_Height_mirrored K) := He.meth_ok (T.fact 71)
theorem ow_Height_eq : G.OwnM K (He.ga K "Height") "__eq__" (a_Height_eq K) := G.ownB_ok (T.fact 72)
theorem na_Ratio_top : NoAttr K (He.ga K "Ratio") "top" := He.noat_ok (T.fact 73)
theorem na_Ratio_bottom : NoAttr K (He.ga K "Ratio") "bottom" := He.noat_ok (T.fact 74)
theorem na_Tone_octaves : NoAttr K (He.ga K "Tone") "octaves" := He.noat_ok (T.fact 75)
theorem na_Tone_fifths : NoAttr K (He.ga K "Tone") "fifths" := He.noat_ok (T.fact 76)
theorem na_Note_number : NoAttr K (He.ga K "Note") "number" := He.noat_ok (T.fact 77)
theorem na_Moving_number : NoAttr K (He.ga K "Moving") "number" := He.noat_ok (T.fact 78)
theorem na_Height_tone : NoAttr K (He.ga K "Height") "tone" := He.noat_ok (T.fact 79)
theorem na_Height_term : NoAttr K (He.ga K "Height") "term" := He.noat_ok (T.fact 80)
theorem fr_isinstance : mg "isinstance" = none := T.fr 81 "isinstance"
theorem fr_int : mg "int" = none := T.fr 82 "int"
theorem fr_bool : mg "bool" = none := T.fr 83 "bool"
theorem fr_abs : mg "abs" = none := T.fr 84 "abs"
theorem fr_len : mg "len" = none := T.fr 85 "len"
theorem fr_range : mg "range" = none := T.fr 86 "range"
theorem fr_list : mg "list" = none := T.fr 87 "list"
theorem fr_all : mg "all" = none := T.fr 88 "all"
theorem op_Ratio_add : G.OpB K (He.ga K "Ratio") "add" (He.ma K (He.ga K "Ratio") (PySem.dunder "add")) := G.opB_ok (T.fact 89)
theorem oi_Ratio_add : G.IntB K (He.ga K "Ratio") "add" := G.intB_ok (T.fact 90)
theorem ni_Ratio_add : G.NoI K (He.ga K "Ratio") "add" := G.noIB_ok (T.fact 91)
theorem op_Ratio_sub : G.OpB K (He.ga K "Ratio") "sub" (He.ma K (He.ga K "Ratio") (PySem.dunder "sub")) := G.opB_ok (T.fact 92)
theorem oi_Ratio_sub : G.IntB K (He.ga K "Ratio") "sub" := G.intB_ok (T.fact 93)
theorem ni_Ratio_sub : G.NoI K (He.ga K "Ratio") "sub" := G.noIB_ok (T.fact 94)
theorem op_Ratio_mul : G.OpB K (He.ga K "Ratio") "mul" (He.ma K (He.ga K "Ratio") (PySem.dunder "mul")) := G.opB_ok (T.fact 95)
theorem oi_Ratio_mul : G.IntB K (He.ga K "Ratio") "mul" := G.intB_ok (T.fact 96)
theorem ni_Ratio_mul : G.NoI K (He.ga K "Ratio") "mul" := G.noIB_ok (T.fact 97)
theorem ne_Ratio : G.NeM K (He.ga K "Ratio") (He.ma K (He.ga K "Ratio") "__eq__") := G.neB_ok (T.fact 98)
theorem ne_Tone : G.NeM K (He.ga K "Tone") (He.ma K (He.ga K "Tone") "__eq__") := G.neB_ok (T.fact 99)
theorem ne_Height : G.NeM K (He.ga K "Height") (He.ma K (He.ga K "Height") "__eq__") := G.neB_ok (T.fact 100)
theorem ih_Note_init : He.ma K (He.ga K "Note") "__init__" = a_Term_init K := G.inhB_ok (T.fact 101)
theorem xk_Note : Mk K (He.ga K "Note") (He.ma K (He.ga K "Note") "__init__") := He.mkr_ok (T.fact 102)
theorem xp_Note_is_moving : L2.PropOf K (He.ga K "Note") "is_moving" (He.ma K (He.ga K "Note") "is_moving") (G.prA "Note" "is_moving" K) := G.prB_ok (T.fact 103)
theorem ih_Note_is_moving : G.prA "Note" "is_moving" K = a_Term_is_moving K := G.inhP_ok (T.fact 104)
theorem ih_Note_note : He.ma K (He.ga K "Note") "note" = a_Term_note K := G.inhB_ok (T.fact 105)
theorem xm_Note_note : Meth K (He.ga K "Note") "note" (He.ma K (He.ga K "Note") "note") := He.meth_ok (T.fact 106)
theorem ih_Note_position : He.ma K (He.ga K "Note") "position" = a_Term_position K := G.inhB_ok (T.fact 107)
theorem xm_Note_position : Meth K (He.ga K "Note") "position" (He.ma K (He.ga K "Note") "position") := He.meth_ok (T.fact 108)
theorem ih_Note_with_number : He.ma K (He.ga K "Note") "with_number" = a_Term_with_number K := G.inhB_ok (T.fact 109)
theorem xm_Note_with_number : Meth K (He.ga K "Note") "with_number" (He.ma K (He.ga K "Note") "with_number") := He.meth_ok (T.fact 110)
theorem ih_Note_moved : He.ma K (He.ga K "Note") "moved" = a_Term_moved K := G.inhB_ok (T.fact 111)
theorem xm_Note_moved : Meth K (He.ga K "Note") "moved" (He.ma K (He.ga K "Note") "moved") := He.meth_ok (T.fact 112)
theorem ih_Note_mirrored : He.ma K (He.ga K "Note") "mirrored" = a_Term_mirrored K := G.inhB_ok (T.fact 113)
theorem xm_Note_mirrored : Meth K (He.ga K "Note") "mirrored" (He.ma K (He.ga K "Note") "mirrored") := He.meth_ok (T.fact 114)
theorem ih_Note_eq : He.ma K (He.ga K "Note") "__eq__" = a_Term_eq K := G.inhB_ok (T.fact 115)
theorem xo_Note_eq : G.OwnM K (He.ga K "Note") "__eq__" (He.ma K (He.ga K "Note") "__eq__") := G.ownB_ok (T.fact 116)
theorem xn_Note : G.NeM K (He.ga K "Note") (He.ma K (He.ga K "Note") "__eq__") := G.neB_ok (T.fact 117)
theorem ih_Moving_init : He.ma K (He.ga K "Moving") "__init__" = a_Term_init K := G.inhB_ok (T.fact 118)
theorem xk_Moving : Mk K (He.ga K "Moving") (He.ma K (He.ga K "Moving") "__init__") := He.mkr_ok (T.fact 119)
theorem xp_Moving_is_moving : L2.PropOf K (He.ga K "Moving") "is_moving" (He.ma K (He.ga K "Moving") "is_moving") (G.prA "Moving" "is_moving" K) := G.prB_ok (T.fact 120)
theorem ih_Moving_is_moving : G.prA "Moving" "is_moving" K = a_Term_is_moving K := G.inhP_ok (T.fact 121)
theorem ih_Moving_note : He.ma K (He.ga K "Moving") "note" = a_Term_note K := G.inhB_ok (T.fact 122)
theorem xm_Moving_note : Meth K (He.ga K "Moving") "note" (He.ma K (He.ga K "Moving") "note") := He.meth_ok (T.fact 123)
theorem ih_Moving_position : He.ma K (He.ga K "Moving") "position" = a_Term_position K := G.inhB_ok (T.fact 124)
theorem xm_Moving_position : Meth K (He.ga K "Moving") "position" (He.ma K (He.ga K "Moving") "position") := He.meth_ok (T.fact 125)
theorem ih_Moving_with_number : He.ma K (He.ga K "Moving") "with_number" = a_Term_with_number K := G.inhB_ok (T.fact 126)
theorem xm_Moving_with_number : Meth K (He.ga K "Moving") "with_number" (He.ma K (He.ga K "Moving") "with_number") := He.meth_ok (T.fact 127)
theorem ih_Moving_moved : He.ma K (He.ga K "Moving") "moved" = a_Term_moved K := G.inhB_ok (T.fact 128)
theorem xm_Moving_moved : Meth K (He.ga K "Moving") "moved" (He.ma K (He.ga K "Moving") "moved") := He.meth_ok (T.fact 129)
theorem ih_Moving_mirrored : He.ma K (He.ga K "Moving") "mirrored" = a_Term_mirrored K := G.inhB_ok (T.fact 130)
theorem xm_Moving_mirrored : Meth K (He.ga K "Moving") "mirrored" (He.ma K (He.ga K "Moving") "mirrored") := He.meth_ok (T.fact 131)
theorem ih_Moving_eq : He.ma K (He.ga K "Moving") "__eq__" = a_Term_eq K := G.inhB_ok (T.fact 132)
theorem xo_Moving_eq : G.OwnM K (He.ga K "Moving") "__eq__" (He.ma K (He.ga K "Moving") "__eq__") := G.ownB_ok (T.fact 133)
theorem xn_Moving : G.NeM K (He.ga K "Moving") (He.ma K (He.ga K "Moving") "__eq__") := G.neB_ok (T.fact 134)
theorem gi_MOST_NUMBER : ∃ u, mg "MOST_NUMBER" = some (.int (12) u) := G.gint_ok T 135 "MOST_NUMBER" rfl
theorem gi_MOST_TONE : ∃ u, mg "MOST_TONE" = some (.int (20) u) := G.gint_ok T 136 "MOST_TONE" rfl
theorem ki_int_Ratio : PySem.W.kitOne K (.type "int") (.ref (He.ga K "Ratio")) = some false := G.kitB_ok (T.fact 137)
theorem ki_Ratio_Ratio : PySem.W.kitOne K (.ref (He.ga K "Ratio")) (.ref (He.ga K "Ratio")) = some true := G.kitB_ok (T.fact 138)
theorem nf_Ratio_Ratio : PySem.W.notFirst K (He.ga K "Ratio") (.ref (He.ga K "Ratio")) = true := id (T.fact 139)
theorem nf_Ratio_int : PySem.W.notFirst K (He.ga K "Ratio") (.type "int") = true := id (T.fact 140)
theorem ki_int_Term : PySem.W.kitOne K (.type "int") (.ref (He.ga K "Term")) = some false := G.kitB_ok (T.fact 141)
theorem nf_Note_int : PySem.W.notFirst K (He.ga K "Note") (.type "int") = true := id (T.fact 142)
theorem nf_Moving_int : PySem.W.notFirst K (He.ga K "Moving") (.type "int") = true := id (T.fact 143)
theorem ki_str_Term : PySem.W.kitOne K (.type "str") (.ref (He.ga K "Term")) = some false := G.kitB_ok (T.fact 144)
theorem nf_Note_str : PySem.W.notFirst K (He.ga K "Note") (.type "str") = true := id (T.fact 145)
theorem nf_Moving_str : PySem.W.notFirst K (He.ga K "Moving") (.type "str") = true := id (T.fact 146)
theorem ki_NoneType_Term : PySem.W.kitOne K (.type "NoneType") (.ref (He.ga K "Term")) = some false := G.kitB_ok (T.fact 147)
theorem nf_Note_NoneType : PySem.W.notFirst K (He.ga K "Note") (.type "NoneType") = true := id (T.fact 148)
theorem nf_Moving_NoneType : PySem.W.notFirst K (He.ga K "Moving") (.type "NoneType") = true := id (T.fact 149)
theorem ki_tuple_Term : PySem.W.kitOne K (.type "tuple") (.ref (He.ga K "Term")) = some false := G.kitB_ok (T.fact 150)
theorem nf_Note_tuple : PySem.W.notFirst K (He.ga K "Note") (.type "tuple") = true := id (T.fact 151)
theorem nf_Moving_tuple : PySem.W.notFirst K (He.ga K "Moving") (.type "tuple") = true := id (T.fact 152)
theorem ki_list_Term : PySem.W.kitOne K (.type "list") (.ref (He.ga K "Term")) = some false := G.kitB_ok (T.fact 153)
theorem nf_Note_list : PySem.W.notFirst K (He.ga K "Note") (.type "list") = true := id (T.fact 154)
theorem nf_Moving_list : PySem.W.notFirst K (He.ga K "Moving") (.type "list") = true := id (T.fact 155)
theorem ki_Tone_Term : PySem.W.kitOne K (.ref (He.ga K "Tone")) (.ref (He.ga K "Term")) = some false := G.kitB_ok (T.fact 156)
theorem nf_Note_Tone : PySem.W.notFirst K (He.ga K "Note") (.ref (He.ga K "Tone")) = true := id (T.fact 157)
theorem nf_Moving_Tone : PySem.W.notFirst K (He.ga K "Moving") (.ref (He.ga K "Tone")) = true := id (T.fact 158)
theorem ki_Note_Term : PySem.W.kitOne K (.ref (He.ga K "Note")) (.ref (He.ga K "Term")) = some true := G.kitB_ok (T.fact 159)
theorem ki_Note_Tone : PySem.W.kitOne K (.ref (He.ga K "Note")) (.ref (He.ga K "Tone")) = some false := G.kitB_ok (T.fact 160)
theorem ki_Note_Note : PySem.W.kitOne K (.ref (He.ga K "Note")) (.ref (He.ga K "Note")) = some true := G.kitB_ok (T.fact 161)
theorem nf_Note_Note : PySem.W.notFirst K (He.ga K "Note") (.ref (He.ga K "Note")) = true := id (T.fact 162)
theorem ki_Note_Moving : PySem.W.kitOne K (.ref (He.ga K "Note")) (.ref (He.ga K "Moving")) = some false := G.kitB_ok (T.fact 163)
theorem nf_Note_Moving : PySem.W.notFirst K (He.ga K "Note") (.ref (He.ga K "Moving")) = true := id (T.fact 164)
theorem ki_Moving_Term : PySem.W.kitOne K (.ref (He.ga K "Moving")) (.ref (He.ga K "Term")) = some true := G.kitB_ok (T.fact 165)
theorem ki_Moving_Tone : PySem.W.kitOne K (.ref (He.ga K "Moving")) (.ref (He.ga K "Tone")) = some false := G.kitB_ok (T.fact 166)
theorem ki_Moving_Note : PySem.W.kitOne K (.ref (He.ga K "Moving")) (.ref (He.ga K "Note")) = some false := G.kitB_ok (T.fact 167)
theorem nf_Moving_Note : PySem.W.notFirst K (He.ga K "Moving") (.ref (He.ga K "Note")) = true := id (T.fact 168)
theorem ki_Moving_Moving : PySem.W.kitOne K (.ref (He.ga K "Moving")) (.ref (He.ga K "Moving")) = some true := G.kitB_ok (T.fact 169)
theorem nf_Moving_Moving : PySem.W.notFirst K (He.ga K "Moving") (.ref (He.ga K "Moving")) = true := id (T.fact 170)
theorem si_Ratio : PySem.W.subIn K (.ref (He.ga K "Ratio")) (.type "int") = some false := G.noIntB_ok (T.fact 171)
theorem co_Note : ∃ u, Con K (He.ga K "Note") "MOVES" (.int 0) u := G.conB_ok (T.fact 172)
theorem co_Moving : ∃ u, Con K (He.ga K "Moving") "MOVES" (.int 1) u := G.conB_ok (T.fact 173)
theorem ki_Tone_Tone : PySem.W.kitOne K (.ref (He.ga K "Tone")) (.ref (He.ga K "Tone")) = some true := G.kitB_ok (T.fact 174)
theorem nf_Tone_Tone : PySem.W.notFirst K (He.ga K "Tone") (.ref (He.ga K "Tone")) = true := id (T.fact 175)
theorem ki_Height_Height : PySem.W.kitOne K (.ref (He.ga K "Height")) (.ref (He.ga K "Height")) = some true := G.kitB_ok (T.fact 176)
theorem nf_Height_Height : PySem.W.notFirst K (He.ga K "Height") (.ref (He.ga K "Height")) = true := id (T.fact 177)
theorem ki_int_Height : PySem.W.kitOne K (.type "int") (.ref (He.ga K "Height")) = some false := G.kitB_ok (T.fact 178)
theorem nf_Height_int : PySem.W.notFirst K (He.ga K "Height") (.type "int") = true := id (T.fact 179)
theorem ki_NoneType_Height : PySem.W.kitOne K (.type "NoneType") (.ref (He.ga K "Height")) = some false := G.kitB_ok (T.fact 180)
theorem nf_Height_NoneType : PySem.W.notFirst K (He.ga K "Height") (.type "NoneType") = true := id (T.fact 181)
theorem ki_tuple_Height : PySem.W.kitOne K (.type "tuple") (.ref (He.ga K "Height")) = some false := G.kitB_ok (T.fact 182)
theorem nf_Height_tuple : PySem.W.notFirst K (He.ga K "Height") (.type "tuple") = true := id (T.fact 183)
theorem ki_Tone_Height : PySem.W.kitOne K (.ref (He.ga K "Tone")) (.ref (He.ga K "Height")) = some false := G.kitB_ok (T.fact 184)
theorem nf_Height_Tone : PySem.W.notFirst K (He.ga K "Height") (.ref (He.ga K "Tone")) = true := id (T.fact 185)
theorem ki_Note_Height : PySem.W.kitOne K (.ref (He.ga K "Note")) (.ref (He.ga K "Height")) = some false := G.kitB_ok (T.fact 186)
theorem nf_Height_Note : PySem.W.notFirst K (He.ga K "Height") (.ref (He.ga K "Note")) = true := id (T.fact 187)
theorem ki_Moving_Height : PySem.W.kitOne K (.ref (He.ga K "Moving")) (.ref (He.ga K "Height")) = some false := G.kitB_ok (T.fact 188)
theorem nf_Height_Moving : PySem.W.notFirst K (He.ga K "Height") (.ref (He.ga K "Moving")) = true := id (T.fact 189)
theorem fn_Tone_call : PySem.W.fnIn K (a_Tone_call K) = true := id (T.fact 190)
theorem mk_Note : Mk K (He.ga K "Note") (a_Term_init K) := (ih_Note_init T) ▸ (xk_Note T)
theorem pr_Note_is_moving : ∃ p, L2.PropOf K (He.ga K "Note") "is_moving" p (a_Term_is_moving K) := ⟨_, (ih_Note_is_moving T) ▸ (xp_Note_is_moving T)⟩
theorem me_Note_note : Meth K (He.ga K "Note") "note" (a_Term_note K) := (ih_Note_note T) ▸ (xm_Note_note T)
theorem me_Note_position : Meth K (He.ga K "Note") "position" (a_Term_position K) := (ih_Note_position T) ▸ (xm_Note_position T)
theorem me_Note_with_number : Meth K (He.ga K "Note") "with_number" (a_Term_with_number K) := (ih_Note_with_number T) ▸ (xm_Note_with_number T)
theorem me_Note_moved : Meth K (He.ga K "Note") "moved" (a_Term_moved K) := (ih_Note_moved T) ▸ (xm_Note_moved T)
theorem me_Note_mirrored : Meth K (He.ga K "Note") "mirrored" (a_Term_mirrored K) := (ih_Note_mirrored T) ▸ (xm_Note_mirrored T)
theorem ow_Note_eq : G.OwnM K (He.ga K "Note") "__eq__" (a_Term_eq K) := (ih_Note_eq T) ▸ (xo_Note_eq T)
theorem ne_Note : G.NeM K (He.ga K "Note") (a_Term_eq K) := (ih_Note_eq T) ▸ (xn_Note T)
theorem mk_Moving : Mk K (He.ga K "Moving") (a_Term_init K) := (ih_Moving_init T) ▸ (xk_Moving T)
theorem pr_Moving_is_moving : ∃ p, L2.PropOf K (He.ga K "Moving") "is_moving" p (a_Term_is_moving K) := ⟨_, (ih_Moving_is_moving T) ▸ (xp_Moving_is_moving T)⟩
theorem me_Moving_note : Meth K (He.ga K "Moving") "note" (a_Term_note K) := (ih_Moving_note T) ▸ (xm_Moving_note T)
theorem me_Moving_position : Meth K (He.ga K "Moving") "position" (a_Term_position K) := (ih_Moving_position T) ▸ (xm_Moving_position T)
theorem me_Moving_with_number : Meth K (He.ga K "Moving") "with_number" (a_Term_with_number K) := (ih_Moving_with_number T) ▸ (xm_Moving_with_number T)
theorem me_Moving_moved : Meth K (He.ga K "Moving") "moved" (a_Term_moved K) := (ih_Moving_moved T) ▸ (xm_Moving_moved T)
theorem me_Moving_mirrored : Meth K (He.ga K "Moving") "mirrored" (a_Term_mirrored K) := (ih_Moving_mirrored T) ▸ (xm_Moving_mirrored T)
theorem ow_Moving_eq : G.OwnM K (He.ga K "Moving") "__eq__" (a_Term_eq K) := (ih_Moving_eq T) ▸ (xo_Moving_eq T)
theorem ne_Moving : G.NeM K (He.ga K "Moving") (a_Term_eq K) := (ih_Moving_eq T) ▸ (xn_Moving T)
theorem F_is_integer : FunD K "is_integer" "is_integer" (defArgs s_is_integer) (defBody s_is_integer) (defScope s_is_integer) [] [] (a_is_integer K) (G.fdOf K (a_is_integer K)) := T.def_ 0
theorem bi_is_integer : Binds K (G.fdOf K (a_is_integer K)) ["value"] [] := (F_is_integer T).bindsN fun _ _ _ _ _ _ us hl => match us, hl with | [_], _ => rfl
theorem F_is_between : FunD K "is_between" "is_between" (defArgs s_is_between) (defBody s_is_between) (defScope s_is_between) [] [] (a_is_between K) (G.fdOf K (a_is_between K)) := T.def_ 1
theorem bi_is_between : Binds K (G.fdOf K (a_is_between K)) ["value", "least", "most"] [] := (F_is_between T).bindsN fun _ _ _ _ _ _ us hl => match us, hl with | [_, _, _], _ => rfl
theorem F_common_divisor : FunD K "common_divisor" "common_divisor" (defArgs s_common_divisor) (defBody s_common_divisor) (defScope s_common_divisor) [] [] (a_common_divisor K) (G.fdOf K (a_common_divisor K)) := T.def_ 2
theorem bi_common_divisor : Binds K (G.fdOf K (a_common_divisor K)) ["one", "other"] [] := (F_common_divisor T).bindsN fun _ _ _ _ _ _ us hl => match us, hl with | [_, _], _ => rfl
theorem F_parts_of : FunD K "parts_of" "parts_of" (defArgs s_parts_of) (defBody s_parts_of) (defScope s_parts_of) [] [] (a_parts_of K) (G.fdOf K (a_parts_of K)) := T.def_ 3
theorem bi_parts_of : Binds K (G.fdOf K (a_parts_of K)) ["number"] [] := (F_parts_of T).bindsN fun _ _ _ _ _ _ us hl => match us, hl with | [_], _ => rfl
theorem F_need_divisor : FunD K "need_divisor" "need_divisor" (defArgs s_need_divisor) (defBody s_need_divisor) (defScope s_need_divisor) [] [] (a_need_divisor K) (G.fdOf K (a_need_divisor K)) := T.def_ 4
theorem bi_need_divisor : Binds K (G.fdOf K (a_need_divisor K)) ["number"] [] := (F_need_divisor T).bindsN fun _ _ _ _ _ _ us hl => match us, hl with | [_], _ => rfl
theorem F_Ratio_init : FunD K "__init__" "Ratio.__init__" (defArgs s_Ratio_init) (defBody s_Ratio_init) (defScope s_Ratio_init) [.int 1] [] (a_Ratio_init K) (G.fdOf K (a_Ratio_init K)) := T.def_ 5
theorem bi_Ratio_init : Binds K (G.fdOf K (a_Ratio_init K)) ["self", "top", "bottom"] [] := by
  obtain ⟨ds, hd, hb⟩ := (F_Ratio_init T).binds1 (ps := ["self", "top", "bottom"]) 3 1 (by simp) rfl fun T kV doc pm an cdv ct us its h1 h2 => match us, its, h1, h2 with | [_, _, _], [_], _, _ => ⟨_, rfl, rfl⟩
  cases hd
  exact hb
theorem bid_Ratio_init : ∃ ds, Vals [.int 1] ds ∧ Binds K (G.fdOf K (a_Ratio_init K)) ["self", "top", "bottom"] ds :=
  (F_Ratio_init T).binds1 (ps := ["self", "top", "bottom"]) 2 0 (by simp) rfl fun T kV doc pm an cdv ct us its h1 h2 => match us, its, h1, h2 with | [_, _], [_], _, _ => ⟨_, rfl, rfl⟩
theorem F_Ratio_is_number : FunD K "is_number" "Ratio.is_number" (defArgs s_Ratio_is_number) (defBody s_Ratio_is_number) (defScope s_Ratio_is_number) [] [] (a_Ratio_is_number K) (G.fdOf K (a_Ratio_is_number K)) := T.def_ 6
theorem bi_Ratio_is_number : Binds K (G.fdOf K (a_Ratio_is_number K)) ["value"] [] := (F_Ratio_is_number T).bindsN fun _ _ _ _ _ _ us hl => match us, hl with | [_], _ => rfl
theorem F_Ratio_is_fifth : FunD K "is_fifth" "Ratio.is_fifth" (defArgs s_Ratio_is_fifth) (defBody s_Ratio_is_fifth) (defScope s_Ratio_is_fifth) [] [] (a_Ratio_is_fifth K) (G.fdOf K (a_Ratio_is_fifth K)) := T.def_ 7
theorem bi_Ratio_is_fifth : Binds K (G.fdOf K (a_Ratio_is_fifth K)) ["value"] [] := (F_Ratio_is_fifth T).bindsN fun _ _ _ _ _ _ us hl => match us, hl with | [_], _ => rfl
theorem F_Ratio_add : FunD K "__add__" "Ratio.__add__" (defArgs s_Ratio_add) (defBody s_Ratio_add) (defScope s_Ratio_add) [] [] (a_Ratio_add K) (G.fdOf K (a_Ratio_add K)) := T.def_ 8
theorem bi_Ratio_add : Binds K (G.fdOf K (a_Ratio_add K)) ["self", "other"] [] := (F_Ratio_add T).bindsN fun _ _ _ _ _ _ us hl => match us, hl with | [_, _], _ => rfl
theorem F_Ratio_neg : FunD K "__neg__" "Ratio.__neg__" (defArgs s_Ratio_neg) (defBody s_Ratio_neg) (defScope s_Ratio_neg) [] [] (a_Ratio_neg K) (G.fdOf K (a_Ratio_neg K)) := T.def_ 9
theorem bi_Ratio_neg : Binds K (G.fdOf K (a_Ratio_neg K)) ["self"] [] := (F_Ratio_neg T).bindsN fun _ _ _ _ _ _ us hl => match us, hl with | [_], _ => rfl
theorem F_Ratio_rsub : FunD K "__rsub__" "Ratio.__rsub__" (defArgs s_Ratio_rsub) (defBody s_Ratio_rsub) (defScope s_Ratio_rsub) [] [] (a_Ratio_rsub K) (G.fdOf K (a_Ratio_rsub K)) := T.def_ 10
theorem bi_Ratio_rsub : Binds K (G.fdOf K (a_Ratio_rsub K)) ["self", "other"] [] := (F_Ratio_rsub T).bindsN fun _ _ _ _ _ _ us hl => match us, hl with | [_, _], _ => rfl
theorem F_Ratio_mul : FunD K "__mul__" "Ratio.__mul__" (defArgs s_Ratio_mul) (defBody s_Ratio_mul) (defScope s_Ratio_mul) [] [] (a_Ratio_mul K) (G.fdOf K (a_Ratio_mul K)) := T.def_ 11
theorem bi_Ratio_mul : Binds K (G.fdOf K (a_Ratio_mul K)) ["self", "other"] [] := (F_Ratio_mul T).bindsN fun _ _ _ _ _ _ us hl => match us, hl with | [_, _], _ => rfl
theorem F_Ratio_rmul : FunD K "__rmul__" "Ratio.__rmul__" (defArgs s_Ratio_rmul) (defBody s_Ratio_rmul) (defScope s_Ratio_rmul) [] [] (a_Ratio_rmul K) (G.fdOf K (a_Ratio_rmul K)) := T.def_ 12
theorem bi_Ratio_rmul : Binds K (G.fdOf K (a_Ratio_rmul K)) ["self", "other"] [] := (F_Ratio_rmul T).bindsN fun _ _ _ _ _ _ us hl => match us, hl with | [_, _], _ => rfl
theorem F_Ratio_eq : FunD K "__eq__" "Ratio.__eq__" (defArgs s_Ratio_eq) (defBody s_Ratio_eq) (defScope s_Ratio_eq) [] [] (a_Ratio_eq K) (G.fdOf K (a_Ratio_eq K)) := T.def_ 13
theorem bi_Ratio_eq : Binds K (G.fdOf K (a_Ratio_eq K)) ["self", "other"] [] := (F_Ratio_eq T).bindsN fun _ _ _ _ _ _ us hl => match us, hl with | [_, _], _ => rfl
theorem F_is_fifth : FunD K "is_fifth" "is_fifth" (defArgs s_is_fifth) (defBody s_is_fifth) (defScope s_is_fifth) [] [] (a_is_fifth K) (G.fdOf K (a_is_fifth K)) := T.def_ 14
theorem bi_is_fifth : Binds K (G.fdOf K (a_is_fifth K)) ["value"] [] := (F_is_fifth T).bindsN fun _ _ _ _ _ _ us hl => match us, hl with | [_], _ => rfl
theorem F_need_fifth : FunD K "need_fifth" "need_fifth" (defArgs s_need_fifth) (defBody s_need_fifth) (defScope s_need_fifth) [] [] (a_need_fifth K) (G.fdOf K (a_need_fifth K)) := T.def_ 15
theorem bi_need_fifth : Binds K (G.fdOf K (a_need_fifth K)) ["value"] [] := (F_need_fifth T).bindsN fun _ _ _ _ _ _ us hl => match us, hl with | [_], _ => rfl
theorem F_key_of : FunD K "key_of" "key_of" (defArgs s_key_of) (defBody s_key_of) (defScope s_key_of) [] [] (a_key_of K) (G.fdOf K (a_key_of K)) := T.def_ 16
theorem bi_key_of : Binds K (G.fdOf K (a_key_of K)) ["number", "fifth"] [] := (F_key_of T).bindsN fun _ _ _ _ _ _ us hl => match us, hl with | [_, _], _ => rfl
theorem F_Tone_init : FunD K "__init__" "Tone.__init__" (defArgs s_Tone_init) (defBody s_Tone_init) (defScope s_Tone_init) [.int 0] [] (a_Tone_init K) (G.fdOf K (a_Tone_init K)) := T.def_ 17
theorem bi_Tone_init : Binds K (G.fdOf K (a_Tone_init K)) ["self", "octaves", "fifths"] [] := by
  obtain ⟨ds, hd, hb⟩ := (F_Tone_init T).binds1 (ps := ["self", "octaves", "fifths"]) 3 1 (by simp) rfl fun T kV doc pm an cdv ct us its h1 h2 => match us, its, h1, h2 with | [_, _, _], [_], _, _ => ⟨_, rfl, rfl⟩
  cases hd
  exact hb
theorem bid_Tone_init : ∃ ds, Vals [.int 0] ds ∧ Binds K (G.fdOf K (a_Tone_init K)) ["self", "octaves", "fifths"] ds :=
  (F_Tone_init T).binds1 (ps := ["self", "octaves", "fifths"]) 2 0 (by simp) rfl fun T kV doc pm an cdv ct us its h1 h2 => match us, its, h1, h2 with | [_, _], [_], _, _ => ⟨_, rfl, rfl⟩
theorem F_Tone_pitch_at : FunD K "pitch_at" "Tone.pitch_at" (defArgs s_Tone_pitch_at) (defBody s_Tone_pitch_at) (defScope s_Tone_pitch_at) [] [] (a_Tone_pitch_at K) (G.fdOf K (a_Tone_pitch_at K)) := T.def_ 18
theorem bi_Tone_pitch_at : Binds K (G.fdOf K (a_Tone_pitch_at K)) ["self", "value"] [] := (F_Tone_pitch_at T).bindsN fun _ _ _ _ _ _ us hl => match us, hl with | [_, _], _ => rfl
theorem F_Tone_call : FunD K "__call__" "Tone.__call__" (defArgs s_Tone_call) (defBody s_Tone_call) (defScope s_Tone_call) [] [] (a_Tone_call K) (G.fdOf K (a_Tone_call K)) := T.def_ 19
theorem bi_Tone_call : Binds K (G.fdOf K (a_Tone_call K)) ["self", "fifth"] [] := (F_Tone_call T).bindsN fun _ _ _ _ _ _ us hl => match us, hl with | [_, _], _ => rfl
theorem F_Tone_eq : FunD K "__eq__" "Tone.__eq__" (defArgs s_Tone_eq) (defBody s_Tone_eq) (defScope s_Tone_eq) [] [] (a_Tone_eq K) (G.fdOf K (a_Tone_eq K)) := T.def_ 20
theorem bi_Tone_eq : Binds K (G.fdOf K (a_Tone_eq K)) ["self", "other"] [] := (F_Tone_eq T).bindsN fun _ _ _ _ _ _ us hl => match us, hl with | [_, _], _ => rfl
theorem F_need_note : FunD K "need_note" "need_note" (defArgs s_need_note) (defBody s_need_note) (defScope s_need_note) [] [] (a_need_note K) (G.fdOf K (a_need_note K)) := T.def_ 21
theorem bi_need_note : Binds K (G.fdOf K (a_need_note K)) ["n"] [] := (F_need_note T).bindsN fun _ _ _ _ _ _ us hl => match us, hl with | [_], _ => rfl
theorem F_Term_init : FunD K "__init__" "Term.__init__" (defArgs s_Term_init) (defBody s_Term_init) (defScope s_Term_init) [] [] (a_Term_init K) (G.fdOf K (a_Term_init K)) := T.def_ 22
theorem bi_Term_init : Binds K (G.fdOf K (a_Term_init K)) ["self", "number"] [] := (F_Term_init T).bindsN fun _ _ _ _ _ _ us hl => match us, hl with | [_, _], _ => rfl
theorem F_Term_is_moving : FunD K "is_moving" "Term.is_moving" (defArgs s_Term_is_moving) (defBody s_Term_is_moving) (defScope s_Term_is_moving) [] [] (a_Term_is_moving K) (G.fdOf K (a_Term_is_moving K)) := T.def_ 23
theorem bi_Term_is_moving : Binds K (G.fdOf K (a_Term_is_moving K)) ["self"] [] := (F_Term_is_moving T).bindsN fun _ _ _ _ _ _ us hl => match us, hl with | [_], _ => rfl
theorem F_Term_note : FunD K "note" "Term.note" (defArgs s_Term_note) (defBody s_Term_note) (defScope s_Term_note) [] [] (a_Term_note K) (G.fdOf K (a_Term_note K)) := T.def_ 24
theorem bi_Term_note : Binds K (G.fdOf K (a_Term_note K)) ["self", "n"] [] := (F_Term_note T).bindsN fun _ _ _ _ _ _ us hl => match us, hl with | [_, _], _ => rfl
theorem F_Term_position : FunD K "position" "Term.position" (defArgs s_Term_position) (defBody s_Term_position) (defScope s_Term_position) [] [] (a_Term_position K) (G.fdOf K (a_Term_position K)) := T.def_ 25
theorem bi_Term_position : Binds K (G.fdOf K (a_Term_position K)) ["self", "n", "fifth"] [] := (F_Term_position T).bindsN fun _ _ _ _ _ _ us hl => match us, hl with | [_, _, _], _ => rfl
theorem F_Term_with_number : FunD K "with_number" "Term.with_number" (defArgs s_Term_with_number) (defBody s_Term_with_number) (defScope s_Term_with_number) [] [] (a_Term_with_number K) (G.fdOf K (a_Term_with_number K)) := T.def_ 26
theorem bi_Term_with_number : Binds K (G.fdOf K (a_Term_with_number K)) ["self", "number"] [] := (F_Term_with_number T).bindsN fun _ _ _ _ _ _ us hl => match us, hl with | [_, _], _ => rfl
theorem F_Term_moved : FunD K "moved" "Term.moved" (defArgs s_Term_moved) (defBody s_Term_moved) (defScope s_Term_moved) [] [] (a_Term_moved K) (G.fdOf K (a_Term_moved K)) := T.def_ 27
theorem bi_Term_moved : Binds K (G.fdOf K (a_Term_moved K)) ["self", "number"] [] := (F_Term_moved T).bindsN fun _ _ _ _ _ _ us hl => match us, hl with | [_, _], _ => rfl
theorem F_Term_mirrored : FunD K "mirrored" "Term.mirrored" (defArgs s_Term_mirrored) (defBody s_Term_mirrored) (defScope s_Term_mirrored) [] [] (a_Term_mirrored K) (G.fdOf K (a_Term_mirrored K)) := T.def_ 28
theorem bi_Term_mirrored : Binds K (G.fdOf K (a_Term_mirrored K)) ["self"] [] := (F_Term_mirrored T).bindsN fun _ _ _ _ _ _ us hl => match us, hl with | [_], _ => rfl
theorem F_Term_eq : FunD K "__eq__" "Term.__eq__" (defArgs s_Term_eq) (defBody s_Term_eq) (defScope s_Term_eq) [] [] (a_Term_eq K) (G.fdOf K (a_Term_eq K)) := T.def_ 29
theorem bi_Term_eq : Binds K (G.fdOf K (a_Term_eq K)) ["self", "other"] [] := (F_Term_eq T).bindsN fun _ _ _ _ _ _ us hl => match us, hl with | [_, _], _ => rfl
theorem F_is_small : FunD K "is_small" "is_small" (defArgs s_is_small) (defBody s_is_small) (defScope s_is_small) [] [] (a_is_small K) (G.fdOf K (a_is_small K)) := T.def_ 30
theorem bi_is_small : Binds K (G.fdOf K (a_is_small K)) ["tone"] [] := (F_is_small T).bindsN fun _ _ _ _ _ _ us hl => match us, hl with | [_], _ => rfl
theorem F_Height_init : FunD K "__init__" "Height.__init__" (defArgs s_Height_init) (defBody s_Height_init) (defScope s_Height_init) [] [] (a_Height_init K) (G.fdOf K (a_Height_init K)) := T.def_ 31
theorem bi_Height_init : Binds K (G.fdOf K (a_Height_init K)) ["self", "tone", "term"] [] := (F_Height_init T).bindsN fun _ _ _ _ _ _ us hl => match us, hl with | [_, _, _], _ => rfl
theorem F_Height_pitch : FunD K "pitch" "Height.pitch" (defArgs s_Height_pitch) (defBody s_Height_pitch) (defScope s_Height_pitch) [] [] (a_Height_pitch K) (G.fdOf K (a_Height_pitch K)) := T.def_ 32
theorem bi_Height_pitch : Binds K (G.fdOf K (a_Height_pitch K)) ["self", "n", "fifth"] [] := (F_Height_pitch T).bindsN fun _ _ _ _ _ _ us hl => match us, hl with | [_, _, _], _ => rfl
theorem F_Height_moved : FunD K "moved" "Height.moved" (defArgs s_Height_moved) (defBody s_Height_moved) (defScope s_Height_moved) [] [] (a_Height_moved K) (G.fdOf K (a_Height_moved K)) := T.def_ 33
theorem bi_Height_moved : Binds K (G.fdOf K (a_Height_moved K)) ["self", "number"] [] := (F_Height_moved T).bindsN fun _ _ _ _ _ _ us hl => match us, hl with | [_, _], _ => rfl
theorem F_Height_mirrored : FunD K "mirrored" "Height.mirrored" (defArgs s_Height_mirrored) (defBody s_Height_mirrored) (defScope s_Height_mirrored) [] [] (a_Height_mirrored K) (G.fdOf K (a_Height_mirrored K)) := T.def_ 34
theorem bi_Height_mirrored : Binds K (G.fdOf K (a_Height_mirrored K)) ["self"] [] := (F_Height_mirrored T).bindsN fun _ _ _ _ _ _ us hl => match us, hl with | [_], _ => rfl
theorem F_Height_eq : FunD K "__eq__" "Height.__eq__" (defArgs s_Height_eq) (defBody s_Height_eq) (defScope s_Height_eq) [] [] (a_Height_eq K) (G.fdOf K (a_Height_eq K)) := T.def_ 35
theorem bi_Height_eq : Binds K (G.fdOf K (a_Height_eq K)) ["self", "other"] [] := (F_Height_eq T).bindsN fun _ _ _ _ _ _ us hl => match us, hl with | [_, _], _ => rfl
theorem F_law_pen : FunD K "_law_pen" "_law_pen" (defArgs s_law_pen) (defBody s_law_pen) (defScope s_law_pen) [] [] (a_law_pen K) (G.fdOf K (a_law_pen K)) := T.def_ 36
theorem bi_law_pen : Binds K (G.fdOf K (a_law_pen K)) ["_law_script"] [] := (F_law_pen T).bindsN fun _ _ _ _ _ _ us hl => match us, hl with | [_], _ => rfl
theorem F_law_draw : FunD K "_law_draw" "_law_draw" (defArgs s_law_draw) (defBody s_law_draw) (defScope s_law_draw) [] [] (a_law_draw K) (G.fdOf K (a_law_draw K)) := T.def_ 37
theorem bi_law_draw : Binds K (G.fdOf K (a_law_draw K)) ["_law_pen_here", "_law_many"] [] := (F_law_draw T).bindsN fun _ _ _ _ _ _ us hl => match us, hl with | [_, _], _ => rfl
theorem F_law_pick : FunD K "_law_pick" "_law_pick" (defArgs s_law_pick) (defBody s_law_pick) (defScope s_law_pick) [] [] (a_law_pick K) (G.fdOf K (a_law_pick K)) := T.def_ 38
theorem bi_law_pick : Binds K (G.fdOf K (a_law_pick K)) ["_law_pen_here", "_law_some"] [] := (F_law_pick T).bindsN fun _ _ _ _ _ _ us hl => match us, hl with | [_, _], _ => rfl
theorem F_law_fraction : FunD K "_law_fraction" "_law_fraction" (defArgs s_law_fraction) (defBody s_law_fraction) (defScope s_law_fraction) [] [] (a_law_fraction K) (G.fdOf K (a_law_fraction K)) := T.def_ 39
theorem bi_law_fraction : Binds K (G.fdOf K (a_law_fraction K)) ["_law_pen_here"] [] := (F_law_fraction T).bindsN fun _ _ _ _ _ _ us hl => match us, hl with | [_], _ => rfl
theorem F_law_number : FunD K "_law_number" "_law_number" (defArgs s_law_number) (defBody s_law_number) (defScope s_law_number) [] [] (a_law_number K) (G.fdOf K (a_law_number K)) := T.def_ 40
theorem bi_law_number : Binds K (G.fdOf K (a_law_number K)) ["_law_pen_here"] [] := (F_law_number T).bindsN fun _ _ _ _ _ _ us hl => match us, hl with | [_], _ => rfl
theorem F_law_term : FunD K "_law_term" "_law_term" (defArgs s_law_term) (defBody s_law_term) (defScope s_law_term) [] [] (a_law_term K) (G.fdOf K (a_law_term K)) := T.def_ 41
theorem bi_law_term : Binds K (G.fdOf K (a_law_term K)) ["_law_pen_here", "_law_far"] [] := (F_law_term T).bindsN fun _ _ _ _ _ _ us hl => match us, hl with | [_, _], _ => rfl
theorem F_law_real_term : FunD K "_law_real_term" "_law_real_term" (defArgs s_law_real_term) (defBody s_law_real_term) (defScope s_law_real_term) [] [] (a_law_real_term K) (G.fdOf K (a_law_real_term K)) := T.def_ 42
theorem bi_law_real_term : Binds K (G.fdOf K (a_law_real_term K)) ["_law_term_here"] [] := (F_law_real_term T).bindsN fun _ _ _ _ _ _ us hl => match us, hl with | [_], _ => rfl
theorem F_law_tone : FunD K "_law_tone" "_law_tone" (defArgs s_law_tone) (defBody s_law_tone) (defScope s_law_tone) [] [] (a_law_tone K) (G.fdOf K (a_law_tone K)) := T.def_ 43
theorem bi_law_tone : Binds K (G.fdOf K (a_law_tone K)) ["_law_pen_here", "_law_far"] [] := (F_law_tone T).bindsN fun _ _ _ _ _ _ us hl => match us, hl with | [_, _], _ => rfl
theorem F_law_real_height : FunD K "_law_real_height" "_law_real_height" (defArgs s_law_real_height) (defBody s_law_real_height) (defScope s_law_real_height) [] [] (a_law_real_height K) (G.fdOf K (a_law_real_height K)) := T.def_ 44
theorem bi_law_real_height : Binds K (G.fdOf K (a_law_real_height K)) ["_law_tone_here", "_law_term_here"] [] := (F_law_real_height T).bindsN fun _ _ _ _ _ _ us hl => match us, hl with | [_, _], _ => rfl
theorem F_law_key : FunD K "_law_key" "_law_key" (defArgs s_law_key) (defBody s_law_key) (defScope s_law_key) [] [] (a_law_key K) (G.fdOf K (a_law_key K)) := T.def_ 45
theorem bi_law_key : Binds K (G.fdOf K (a_law_key K)) ["_law_term_here", "_law_n", "_law_top", "_law_bottom"] [] := (F_law_key T).bindsN fun _ _ _ _ _ _ us hl => match us, hl with | [_, _, _, _], _ => rfl
theorem F_law_pitch_right : FunD K "_law_pitch_right" "_law_pitch_right" (defArgs s_law_pitch_right) (defBody s_law_pitch_right) (defScope s_law_pitch_right) [] [] (a_law_pitch_right K) (G.fdOf K (a_law_pitch_right K)) := T.def_ 46
theorem bi_law_pitch_right : Binds K (G.fdOf K (a_law_pitch_right K)) ["_law_pen_here", "_law_made", "_law_tone_here", "_law_term_here"] [] := (F_law_pitch_right T).bindsN fun _ _ _ _ _ _ us hl => match us, hl with | [_, _, _, _], _ => rfl
theorem F_law_kept_right : FunD K "_law_kept_right" "_law_kept_right" (defArgs s_law_kept_right) (defBody s_law_kept_right) (defScope s_law_kept_right) [] [] (a_law_kept_right K) (G.fdOf K (a_law_kept_right K)) := T.def_ 47
theorem bi_law_kept_right : Binds K (G.fdOf K (a_law_kept_right K)) ["_law_pen_here", "_law_made", "_law_tone_here", "_law_term_here"] [] := (F_law_kept_right T).bindsN fun _ _ _ _ _ _ us hl => match us, hl with | [_, _, _, _], _ => rfl
theorem F_law : FunD K "law" "law" (defArgs s_law) (defBody s_law) (defScope s_law) [] [] (a_law K) (G.fdOf K (a_law K)) := T.def_ 48
theorem bi_law : Binds K (G.fdOf K (a_law K)) ["_law_script"] [] := (F_law T).bindsN fun _ _ _ _ _ _ us hl => match us, hl with | [_], _ => rfl
end
theorem sc_is_integer : FnScope ["value"] ["value"] (defScope s_is_integer) := ⟨rfl, rfl, rfl, by decide +kernel, rfl, by decide +kernel, by decide +kernel⟩
theorem sc_is_between : FnScope ["value", "least", "most"] ["value", "least", "most"] (defScope s_is_between) := ⟨rfl, rfl, rfl, by decide +kernel, rfl, by decide +kernel, by decide +kernel⟩
theorem sc_common_divisor : FnScope ["one", "other"] ["one", "other"] (defScope s_common_divisor) := ⟨rfl, rfl, rfl, by decide +kernel, rfl, by decide +kernel, by decide +kernel⟩
theorem sc_parts_of : FnScope ["number"] ["number"] (defScope s_parts_of) := ⟨rfl, rfl, rfl, by decide +kernel, rfl, by decide +kernel, by decide +kernel⟩
theorem sc_need_divisor : FnScope ["number"] ["number"] (defScope s_need_divisor) := ⟨rfl, rfl, rfl, by decide +kernel, rfl, by decide +kernel, by decide +kernel⟩
theorem sc_Ratio_init : FnScope ["self", "top", "bottom", "shared"] ["self", "top", "bottom"] (defScope s_Ratio_init) := ⟨rfl, rfl, rfl, by decide +kernel, rfl, by decide +kernel, by decide +kernel⟩
theorem sc_Ratio_is_number : FnScope ["value"] ["value"] (defScope s_Ratio_is_number) := ⟨rfl, rfl, rfl, by decide +kernel, rfl, by decide +kernel, by decide +kernel⟩
theorem sc_Ratio_is_fifth : FnScope ["value"] ["value"] (defScope s_Ratio_is_fifth) := ⟨rfl, rfl, rfl, by decide +kernel, rfl, by decide +kernel, by decide +kernel⟩
theorem sc_Ratio_add : FnScope ["self", "other", "top", "bottom"] ["self", "other"] (defScope s_Ratio_add) := ⟨rfl, rfl, rfl, by decide +kernel, rfl, by decide +kernel, by decide +kernel⟩
theorem sc_Ratio_neg : FnScope ["self"] ["self"] (defScope s_Ratio_neg) := ⟨rfl, rfl, rfl, by decide +kernel, rfl, by decide +kernel, by decide +kernel⟩
theorem sc_Ratio_rsub : FnScope ["self", "other"] ["self", "other"] (defScope s_Ratio_rsub) := ⟨rfl, rfl, rfl, by decide +kernel, rfl, by decide +kernel, by decide +kernel⟩
theorem sc_Ratio_mul : FnScope ["self", "other", "top", "bottom"] ["self", "other"] (defScope s_Ratio_mul) := ⟨rfl, rfl, rfl, by decide +kernel, rfl, by decide +kernel, by decide +kernel⟩
theorem sc_Ratio_rmul : FnScope ["self", "other"] ["self", "other"] (defScope s_Ratio_rmul) := ⟨rfl, rfl, rfl, by decide +kernel, rfl, by decide +kernel, by decide +kernel⟩
theorem sc_Ratio_eq : FnScope ["self", "other"] ["self", "other"] (defScope s_Ratio_eq) := ⟨rfl, rfl, rfl, by decide +kernel, rfl, by decide +kernel, by decide +kernel⟩
theorem sc_is_fifth : FnScope ["value"] ["value"] (defScope s_is_fifth) := ⟨rfl, rfl, rfl, by decide +kernel, rfl, by decide +kernel, by decide +kernel⟩
theorem sc_need_fifth : FnScope ["value"] ["value"] (defScope s_need_fifth) := ⟨rfl, rfl, rfl, by decide +kernel, rfl, by decide +kernel, by decide +kernel⟩
theorem sc_key_of : FnScope ["number", "fifth"] ["number", "fifth"] (defScope s_key_of) := ⟨rfl, rfl, rfl, by decide +kernel, rfl, by decide +kernel, by decide +kernel⟩
theorem sc_Tone_init : FnScope ["self", "octaves", "fifths"] ["self", "octaves", "fifths"] (defScope s_Tone_init) := ⟨rfl, rfl, rfl, by decide +kernel, rfl, by decide +kernel, by decide +kernel⟩
theorem sc_Tone_pitch_at : FnScope ["self", "value"] ["self", "value"] (defScope s_Tone_pitch_at) := ⟨rfl, rfl, rfl, by decide +kernel, rfl, by decide +kernel, by decide +kernel⟩
theorem sc_Tone_call : FnScope ["self", "fifth"] ["self", "fifth"] (defScope s_Tone_call) := ⟨rfl, rfl, rfl, by decide +kernel, rfl, by decide +kernel, by decide +kernel⟩
theorem sc_Tone_eq : FnScope ["self", "other"] ["self", "other"] (defScope s_Tone_eq) := ⟨rfl, rfl, rfl, by decide +kernel, rfl, by decide +kernel, by decide +kernel⟩
theorem sc_need_note : FnScope ["n"] ["n"] (defScope s_need_note) := ⟨rfl, rfl, rfl, by decide +kernel, rfl, by decide +kernel, by decide +kernel⟩
theorem sc_Term_init : FnScope ["self", "number"] ["self", "number"] (defScope s_Term_init) := ⟨rfl, rfl, rfl, by decide +kernel, rfl, by decide +kernel, by decide +kernel⟩
theorem sc_Term_is_moving : FnScope ["self"] ["self"] (defScope s_Term_is_moving) := ⟨rfl, rfl, rfl, by decide +kernel, rfl, by decide +kernel, by decide +kernel⟩
theorem sc_Term_note : FnScope ["self", "n"] ["self", "n"] (defScope s_Term_note) := ⟨rfl, rfl, rfl, by decide +kernel, rfl, by decide +kernel, by decide +kernel⟩
theorem sc_Term_position : FnScope ["self", "n", "fifth", "note"] ["self", "n", "fifth"] (defScope s_Term_position) := ⟨rfl, rfl, rfl, by decide +kernel, rfl, by decide +kernel, by decide +kernel⟩
theorem sc_Term_with_number : FnScope ["self", "number"] ["self", "number"] (defScope s_Term_with_number) := ⟨rfl, rfl, rfl, by decide +kernel, rfl, by decide +kernel, by decide +kernel⟩
theorem sc_Term_moved : FnScope ["self", "number"] ["self", "number"] (defScope s_Term_moved) := ⟨rfl, rfl, rfl, by decide +kernel, rfl, by decide +kernel, by decide +kernel⟩
theorem sc_Term_mirrored : FnScope ["self"] ["self"] (defScope s_Term_mirrored) := ⟨rfl, rfl, rfl, by decide +kernel, rfl, by decide +kernel, by decide +kernel⟩
theorem sc_Term_eq : FnScope ["self", "other"] ["self", "other"] (defScope s_Term_eq) := ⟨rfl, rfl, rfl, by decide +kernel, rfl, by decide +kernel, by decide +kernel⟩
theorem sc_is_small : FnScope ["tone", "part"] ["tone"] (defScope s_is_small) := ⟨rfl, rfl, rfl, by decide +kernel, rfl, by decide +kernel, by decide +kernel⟩
theorem sc_Height_init : FnScope ["self", "tone", "term"] ["self", "tone", "term"] (defScope s_Height_init) := ⟨rfl, rfl, rfl, by decide +kernel, rfl, by decide +kernel, by decide +kernel⟩
theorem sc_Height_pitch : FnScope ["self", "n", "fifth"] ["self", "n", "fifth"] (defScope s_Height_pitch) := ⟨rfl, rfl, rfl, by decide +kernel, rfl, by decide +kernel, by decide +kernel⟩
theorem sc_Height_moved : FnScope ["self", "number"] ["self", "number"] (defScope s_Height_moved) := ⟨rfl, rfl, rfl, by decide +kernel, rfl, by decide +kernel, by decide +kernel⟩
theorem sc_Height_mirrored : FnScope ["self"] ["self"] (defScope s_Height_mirrored) := ⟨rfl, rfl, rfl, by decide +kernel, rfl, by decide +kernel, by decide +kernel⟩
theorem sc_Height_eq : FnScope ["self", "other"] ["self", "other"] (defScope s_Height_eq) := ⟨rfl, rfl, rfl, by decide +kernel, rfl, by decide +kernel, by decide +kernel⟩
theorem sc_law_pen : FnScope ["_law_script"] ["_law_script"] (defScope s_law_pen) := ⟨rfl, rfl, rfl, by decide +kernel, rfl, by decide +kernel, by decide +kernel⟩
theorem sc_law_draw : FnScope ["_law_pen_here", "_law_many", "_law_digit", "_law_used", "_law_cell", "_law_great", "_law_mixed"] ["_law_pen_here", "_law_many"] (defScope s_law_draw) := ⟨rfl, rfl, rfl, by decide +kernel, rfl, by decide +kernel, by decide +kernel⟩
theorem sc_law_pick : FnScope ["_law_pen_here", "_law_some"] ["_law_pen_here", "_law_some"] (defScope s_law_pick) := ⟨rfl, rfl, rfl, by decide +kernel, rfl, by decide +kernel, by decide +kernel⟩
theorem sc_law_fraction : FnScope ["_law_pen_here", "_law_near", "_law_far"] ["_law_pen_here"] (defScope s_law_fraction) := ⟨rfl, rfl, rfl, by decide +kernel, rfl, by decide +kernel, by decide +kernel⟩
theorem sc_law_number : FnScope ["_law_pen_here", "_law_near"] ["_law_pen_here"] (defScope s_law_number) := ⟨rfl, rfl, rfl, by decide +kernel, rfl, by decide +kernel, by decide +kernel⟩
theorem sc_law_term : FnScope ["_law_pen_here", "_law_far"] ["_law_pen_here", "_law_far"] (defScope s_law_term) := ⟨rfl, rfl, rfl, by decide +kernel, rfl, by decide +kernel, by decide +kernel⟩
theorem sc_law_real_term : FnScope ["_law_term_here"] ["_law_term_here"] (defScope s_law_real_term) := ⟨rfl, rfl, rfl, by decide +kernel, rfl, by decide +kernel, by decide +kernel⟩
theorem sc_law_tone : FnScope ["_law_pen_here", "_law_far"] ["_law_pen_here", "_law_far"] (defScope s_law_tone) := ⟨rfl, rfl, rfl, by decide +kernel, rfl, by decide +kernel, by decide +kernel⟩
theorem sc_law_real_height : FnScope ["_law_tone_here", "_law_term_here"] ["_law_tone_here", "_law_term_here"] (defScope s_law_real_height) := ⟨rfl, rfl, rfl, by decide +kernel, rfl, by decide +kernel, by decide +kernel⟩
theorem sc_law_key : FnScope ["_law_term_here", "_law_n", "_law_top", "_law_bottom"] ["_law_term_here", "_law_n", "_law_top", "_law_bottom"] (defScope s_law_key) := ⟨rfl, rfl, rfl, by decide +kernel, rfl, by decide +kernel, by decide +kernel⟩
theorem sc_law_pitch_right : FnScope ["_law_pen_here", "_law_made", "_law_tone_here", "_law_term_here", "_law_again", "_law_top", "_law_bottom", "_law_n", "_law_fifth", "_law_due"] ["_law_pen_here", "_law_made", "_law_tone_here", "_law_term_here"] (defScope s_law_pitch_right) := ⟨rfl, rfl, rfl, by decide +kernel, rfl, by decide +kernel, by decide +kernel⟩
theorem sc_law_kept_right : FnScope ["_law_pen_here", "_law_made", "_law_tone_here", "_law_term_here", "_law_more", "_law_due"] ["_law_pen_here", "_law_made", "_law_tone_here", "_law_term_here"] (defScope s_law_kept_right) := ⟨rfl, rfl, rfl, by decide +kernel, rfl, by decide +kernel, by decide +kernel⟩
theorem sc_law : FnScope ["_law_script", "_law_pen_here", "_law_turn", "_law_tone_here", "_law_term_here", "_law_made", "_law_near", "_law_other", "_law_like", "_law_thing"] ["_law_script"] (defScope s_law) := ⟨rfl, rfl, rfl, by decide +kernel, rfl, by decide +kernel, by decide +kernel⟩
end Lw

/-! ### the head, in three looks at one run -/
namespace Lw
open PySem PySem.Spec PyProof.Rows L2
abbrev R : PySem.W.OpenRow := PySem.W.OpenLaw.row PySem.Challenge.rw_anyfifth_k37_heights
def names : List Str := (("Ratio" : Str) :: ("Tone" : Str) :: ("Term" : Str) :: ("Note" : Str) :: ("Moving" : Str) :: ("Height" : Str) :: ("is_integer" : Str) :: ("is_between" : Str) :: ("common_divisor" : Str) :: ("parts_of" : Str) :: ("need_divisor" : Str) :: ("is_fifth" : Str) :: ("need_fifth" : Str) :: ("key_of" : Str) :: ("need_note" : Str) :: ("is_small" : Str) :: ("_law_pen" : Str) :: ("_law_draw" : Str) :: ("_law_pick" : Str) :: ("_law_fraction" : Str) :: ("_law_number" : Str) :: ("_law_term" : Str) :: ("_law_real_term" : Str) :: ("_law_tone" : Str) :: ("_law_real_height" : Str) :: ("_law_key" : Str) :: ("_law_pitch_right" : Str) :: ("_law_kept_right" : Str) :: ("law" : Str) :: [])
abbrev hk : PySem.W.Hook := G.hookN names 5 exs fns
def ob (s : PySem.W.SharedT) : He.AlD := G.obsNG names 5 exs fns (HandSHeadRun.getT s)
theorem ob_eq (s : PySem.W.SharedT) : ob s = hk.obs s.abs := G.obsNG_eq (HandSHeadRun.getT_eq s)
theorem runA (w : World) : ∀ os : OsState, (HandSHeadRun.endF (HandSHeadRun.stepQ (HandSHeadRun.denQ HandSHeadRun.tabQ) R.prog w) 20000 R.prog w os).map (fun s => HandSHeadRun.looksF R.prog (PySem.W.boot_heap w.params) s.abs) = some true := by
  intro os
  kernel_rfl
theorem runB (w : World) : ∀ os : OsState, (HandSHeadRun.endF (HandSHeadRun.stepQ (HandSHeadRun.denQ HandSHeadRun.tabQ) R.prog w) 20000 R.prog w os).map (fun s => HandSHeadRun.seenQ (PySem.W.view R.prog [89]) (("_wall" : Str) :: ("is_integer" : Str) :: ("is_between" : Str) :: ("FifthError" : Str) :: ("BadInput" : Str) :: ("Refused" : Str) :: ("BadRatio" : Str) :: ("BadFifth" : Str) :: ("BadNumber" : Str) :: ("BadPiece" : Str) :: ("BadTruth" : Str) :: ("BadTone" : Str) :: ("BadTerm" : Str) :: ("BadRegion" : Str) :: ("BadText" : Str) :: ("NoDivisor" : Str) :: ("TooMany" : Str) :: ("FIGURES" : Str) :: ("common_divisor" : Str) :: ("figures_in" : Str) :: ("integer_in" : Str) :: ("MOST_FIGURES_ratios" : Str) :: ("parts_of" : Str) :: ("need_divisor" : Str) :: ("Ratio" : Str) :: ("is_fifth" : Str) :: ("need_fifth" : Str) :: ("key_of" : Str) :: ("end_in" : Str) :: ("Piece" : Str) :: ("path" : Str) :: ("is_branch" : Str) :: ("word_of" : Str) :: ("truths_in" : Str) :: ("halves_of" : Str) :: ("branch_of" : Str) :: ("split" : Str) :: ("least" : Str) :: ("merged" : Str) :: ("reflected" : Str) :: ("levels_of" : Str) :: ("leaves_of" : Str) :: ("words_of" : Str) :: ("first_wrong" : Str) :: ("tree_in" : Str) :: ("turns_to" : Str) :: ("grown" : Str) :: ("NOTHING" : Str) :: ("ALL" : Str) :: ("kind_at" : Str) :: ("need_truth" : Str) :: ("need_end" : Str) :: ("need_near" : Str) :: ("bounded_region" : Str) :: ("up_from" : Str) :: ("Region" : Str) :: ("MOST_FIGURES_tones" : Str) :: ("Tone" : Str) :: ("MOST_NUMBER" : Str) :: ("MOST_TONE" : Str) :: ("need_note" : Str) :: ("Term" : Str) :: ("Note" : Str) :: ("Moving" : Str) :: ("is_small" : Str) :: ("Height" : Str) :: ("_law_pen" : Str) :: ("_law_draw" : Str) :: ("_law_pick" : Str) :: ("_law_fraction" : Str) :: ("_law_number" : Str) :: ("_law_term" : Str) :: ("_law_real_term" : Str) :: ("_law_tone" : Str) :: ("_law_real_height" : Str) :: ("_law_key" : Str) :: ("_law_pitch_right" : Str) :: ("_law_kept_right" : Str) :: []) (PySem.importedModules R.prog.main.body) (fun s => PySem.W.xlAt (PySem.W.view R.prog [89]) [] s && PySem.W.recOk R.toRowW.records s) s.abs) = some (PySem.W.openGood (PySem.W.view R.prog [89]) (("_wall" : Str) :: ("is_integer" : Str) :: ("is_between" : Str) :: ("FifthError" : Str) :: ("BadInput" : Str) :: ("Refused" : Str) :: ("BadRatio" : Str) :: ("BadFifth" : Str) :: ("BadNumber" : Str) :: ("BadPiece" : Str) :: ("BadTruth" : Str) :: ("BadTone" : Str) :: ("BadTerm" : Str) :: ("BadRegion" : Str) :: ("BadText" : Str) :: ("NoDivisor" : Str) :: ("TooMany" : Str) :: ("FIGURES" : Str) :: ("common_divisor" : Str) :: ("figures_in" : Str) :: ("integer_in" : Str) :: ("MOST_FIGURES_ratios" : Str) :: ("parts_of" : Str) :: ("need_divisor" : Str) :: ("Ratio" : Str) :: ("is_fifth" : Str) :: ("need_fifth" : Str) :: ("key_of" : Str) :: ("end_in" : Str) :: ("Piece" : Str) :: ("path" : Str) :: ("is_branch" : Str) :: ("word_of" : Str) :: ("truths_in" : Str) :: ("halves_of" : Str) :: ("branch_of" : Str) :: ("split" : Str) :: ("least" : Str) :: ("merged" : Str) :: ("reflected" : Str) :: ("levels_of" : Str) :: ("leaves_of" : Str) :: ("words_of" : Str) :: ("first_wrong" : Str) :: ("tree_in" : Str) :: ("turns_to" : Str) :: ("grown" : Str) :: ("NOTHING" : Str) :: ("ALL" : Str) :: ("kind_at" : Str) :: ("need_truth" : Str) :: ("need_end" : Str) :: ("need_near" : Str) :: ("bounded_region" : Str) :: ("up_from" : Str) :: ("Region" : Str) :: ("MOST_FIGURES_tones" : Str) :: ("Tone" : Str) :: ("MOST_NUMBER" : Str) :: ("MOST_TONE" : Str) :: ("need_note" : Str) :: ("Term" : Str) :: ("Note" : Str) :: ("Moving" : Str) :: ("is_small" : Str) :: ("Height" : Str) :: ("_law_pen" : Str) :: ("_law_draw" : Str) :: ("_law_pick" : Str) :: ("_law_fraction" : Str) :: ("_law_number" : Str) :: ("_law_term" : Str) :: ("_law_real_term" : Str) :: ("_law_tone" : Str) :: ("_law_real_height" : Str) :: ("_law_key" : Str) :: ("_law_pitch_right" : Str) :: ("_law_kept_right" : Str) :: [])) := by
  intro os
  kernel_rfl
theorem runC (w : World) : ∀ os : OsState, (HandSHeadRun.endF (HandSHeadRun.stepQ (HandSHeadRun.denQ HandSHeadRun.tabQ) R.prog w) 20000 R.prog w os).map ob = some (hk.val w) := by
  intro os
  kernel_rfl
theorem run (w : World) : HandSHeadRun.RunEq R (PySem.W.view R.prog [89]) hk ob 20000 (("_wall" : Str) :: ("is_integer" : Str) :: ("is_between" : Str) :: ("FifthError" : Str) :: ("BadInput" : Str) :: ("Refused" : Str) :: ("BadRatio" : Str) :: ("BadFifth" : Str) :: ("BadNumber" : Str) :: ("BadPiece" : Str) :: ("BadTruth" : Str) :: ("BadTone" : Str) :: ("BadTerm" : Str) :: ("BadRegion" : Str) :: ("BadText" : Str) :: ("NoDivisor" : Str) :: ("TooMany" : Str) :: ("FIGURES" : Str) :: ("common_divisor" : Str) :: ("figures_in" : Str) :: ("integer_in" : Str) :: ("MOST_FIGURES_ratios" : Str) :: ("parts_of" : Str) :: ("need_divisor" : Str) :: ("Ratio" : Str) :: ("is_fifth" : Str) :: ("need_fifth" : Str) :: ("key_of" : Str) :: ("end_in" : Str) :: ("Piece" : Str) :: ("path" : Str) :: ("is_branch" : Str) :: ("word_of" : Str) :: ("truths_in" : Str) :: ("halves_of" : Str) :: ("branch_of" : Str) :: ("split" : Str) :: ("least" : Str) :: ("merged" : Str) :: ("reflected" : Str) :: ("levels_of" : Str) :: ("leaves_of" : Str) :: ("words_of" : Str) :: ("first_wrong" : Str) :: ("tree_in" : Str) :: ("turns_to" : Str) :: ("grown" : Str) :: ("NOTHING" : Str) :: ("ALL" : Str) :: ("kind_at" : Str) :: ("need_truth" : Str) :: ("need_end" : Str) :: ("need_near" : Str) :: ("bounded_region" : Str) :: ("up_from" : Str) :: ("Region" : Str) :: ("MOST_FIGURES_tones" : Str) :: ("Tone" : Str) :: ("MOST_NUMBER" : Str) :: ("MOST_TONE" : Str) :: ("need_note" : Str) :: ("Term" : Str) :: ("Note" : Str) :: ("Moving" : Str) :: ("is_small" : Str) :: ("Height" : Str) :: ("_law_pen" : Str) :: ("_law_draw" : Str) :: ("_law_pick" : Str) :: ("_law_fraction" : Str) :: ("_law_number" : Str) :: ("_law_term" : Str) :: ("_law_real_term" : Str) :: ("_law_tone" : Str) :: ("_law_real_height" : Str) :: ("_law_key" : Str) :: ("_law_pitch_right" : Str) :: ("_law_kept_right" : Str) :: []) w := fun os => G.map3 (runA w os) (runB w os) (runC w os)
end Lw

namespace Lw
open PySem PySem.Spec PyProof.Rows L2
section
variable {P : Program} {w : World} {K : PySem.W.Frag} {mg : Str → Option Value} {base : Heap}
/-! ### what stands in the heap -/
/-- a Ratio in lowest terms -/
structure IsR (K : PySem.W.Frag) (H : Hp) (a : Addr) (t b : Int) : Prop where
  at_ : ∃ dx, H a = some (.ins (He.ga K "Ratio") dx [("top", .int t), ("bottom", .int b)])
  pos : 0 < b
  cop : Int.gcd t b = 1
  bt : G.Bd 4000 t
  bb : G.Bd 4000 b
def Num (K : PySem.W.Frag) (H : Hp) (v : V) (t b : Int) : Prop := (v = .int t ∧ b = 1 ∧ G.Bd 4000 t) ∨ ∃ a, v = .ref a ∧ IsR K H a t b
/-! ### checks, figures -/
def sp_is_integer : Sp := fun vs H Q _ => ∃ i, vs = [.int i] ∧ Q (.bl true) H
theorem ok_is_integer (T : Tx K mg) : G.FnG P w K mg base CX0 1 (a_is_integer K) (G.fdOf K (a_is_integer K)) ["value"] sp_is_integer := by
  refine G.ok_of (F_is_integer T) sc_is_integer (fun vs H Q E h => ?_) (fun cdv A outer s H vs Q E hr h => ?_)
  · obtain ⟨i, rfl, _⟩ := h
    rfl
  · obtain ⟨i, rfl, q⟩ := h
    refine ⟨_, (pss_one (ps_ret (pe_and (pe_callB G.call_isiG (by rfl) (fr_isinstance T) boot_isinstance (pa_cons (pv 0) (pa_cons (G.pe_ty (by rfl) (fr_int T) boot_int) pa_nil))) (pe_one (pe_not (pe_callB G.call_isiG (by rfl) (fr_isinstance T) boot_isinstance (pa_cons (pv 0) (pa_cons (G.pe_ty (by rfl) (fr_bool T) boot_bool) pa_nil)))))))), ?_⟩
    walk_at "start"
    walk_at "go"
    exact q
def sp_common_divisor : Sp := fun vs H Q _ => ∃ i j, vs = [.int i, .int j] ∧ Q (.int ((Int.gcd i j : Nat) : Int)) H
theorem ok_common_divisor (T : Tx K mg) : G.FnG P w K mg base CX0 1 (a_common_divisor K) (G.fdOf K (a_common_divisor K)) ["one", "other"] sp_common_divisor := by
  refine G.ok_of (F_common_divisor T) sc_common_divisor (fun vs H Q E h => ?_) (fun cdv A outer s H vs Q E hr h => ?_)
  · obtain ⟨i, j, rfl, _⟩ := h
    rfl
  · obtain ⟨i, j, rfl, q⟩ := h
    refine ⟨_, (pss_cons (ps_par (i := 0) (j := 1) (by rfl) sc_common_divisor.nd rfl rfl (by decide) rfl rfl (pa_cons (pe_callB G.call_absG (by rfl) (fr_abs T) boot_abs (pa_cons (pv 0) pa_nil)) (pa_cons (pe_callB G.call_absG (by rfl) (fr_abs T) boot_abs (pa_cons (pv 1) pa_nil)) pa_nil)) (by rfl))
    (pss_cons (ps_while PassesOwn.never (pt_cmpR (G.op_neG hr.units) (pv 1) pe_int (nomark _)) (pss_one (ps_par (i := 0) (j := 1) (by rfl) sc_common_divisor.nd rfl rfl (by decide) rfl rfl (pa_cons (pv 1) (pa_cons (pe_op G.op_modG (pv 0) (pv 1)) pa_nil)) (by rfl))))
    (pss_one (ps_ret (pv 0))))), ?_⟩
    walk_at "start"
    walk_at "go"
    refine G.st_while (fun m σ H' => H' = H ∧ ∃ a : Nat, σ = [some (.int (a : Int)), some (.int (m : Int))] ∧ Nat.gcd a m = Int.gcd i j) j.natAbs ⟨rfl, _, rfl, rfl⟩ ?_
    rintro m σ H' ⟨rfl, a, rfl, e⟩
    walk_at "gob"
    · refine ⟨a % m, Nat.mod_lt _ (by omega), rfl, m, by simp, ?_⟩
      rw [← e, Nat.gcd_comm a m, Nat.gcd_rec m a, Nat.gcd_comm]
    · rename_i hc
      have : m = 0 := by omega
      subst this
      rw [← e, Nat.gcd_zero_right] at q
      exact q
def sp_parts_of (K : PySem.W.Frag) : Sp := fun vs H Q _ => ∃ v t b, vs = [v] ∧ Num K H v t b ∧ ∀ p H', H p = none → G.Kp H H' → H' p = some (.tup [.int t, .int b]) → Q (.ref p) H'
end
end Lw

namespace Lw
open PySem PySem.Spec PyProof.Rows L2
section
variable {P : Program} {w : World} {K : PySem.W.Frag} {mg : Str → Option Value} {base : Heap} {H H' : Hp} {Q : VK} {E : XK} {a p : Addr} {t b n d i j : Int} {v : V}
theorem lk1 {x y : V} : List.lookup ("top" : Str) ([("top", x), ("bottom", y)] : List (Str × V)) = some x := by simp [List.lookup]
theorem lk2 {x y : V} : List.lookup ("bottom" : Str) ([("top", x), ("bottom", y)] : List (Str × V)) = some y := by
  have e : (("bottom" : Str) == "top") = false := by decide +kernel
  simp [List.lookup, e]
theorem IsR.kp (k : G.Kp H H') (h : IsR K H a t b) : IsR K H' a t b := ⟨let ⟨dx, e⟩ := h.at_; ⟨dx, k _ _ e⟩, h.pos, h.cop, h.bt, h.bb⟩
theorem IsR.md (k : G.Md p H H') (h : IsR K H a t b) : IsR K H' a t b := ⟨let ⟨dx, e⟩ := h.at_; ⟨dx, k.ins e⟩, h.pos, h.cop, h.bt, h.bb⟩
theorem Num.kp (k : G.Kp H H') (h : Num K H v t b) : Num K H' v t b := h.elim .inl fun ⟨a, e, r⟩ => .inr ⟨a, e, r.kp k⟩
theorem Num.md (k : G.Md p H H') (h : Num K H v t b) : Num K H' v t b := h.elim .inl fun ⟨a, e, r⟩ => .inr ⟨a, e, r.md k⟩
theorem Num.of_int (h : G.Bd 4000 t) : Num K H (.int t) t 1 := .inl ⟨rfl, rfl, h⟩
theorem Num.of_r (h : IsR K H a t b) : Num K H (.ref a) t b := .inr ⟨a, rfl, h⟩
theorem Num.pos (h : Num K H v t b) : 0 < b := h.elim (fun e => by rw [e.2.1]; decide) fun ⟨_, _, r⟩ => r.pos
theorem Num.cop (h : Num K H v t b) : Int.gcd t b = 1 := h.elim (fun e => by rw [e.2.1]; simp) fun ⟨_, _, r⟩ => r.cop
theorem Num.bt (h : Num K H v t b) : G.Bd 4000 t := h.elim (fun e => e.2.2) fun ⟨_, _, r⟩ => r.bt
theorem Num.bb (h : Num K H v t b) : G.Bd 4000 b := h.elim (fun e => by rw [e.2.1]; exact (G.Bd.lit 1).mono (by decide)) fun ⟨_, _, r⟩ => r.bb
theorem IsR.ty (T : Tx K mg) (h : IsR K H a t b) : TyX K H (.ref a) (.ref (He.ga K "Ratio")) := let ⟨_, e⟩ := h.at_; .base (.ins e (cl_Ratio T) (is_Ratio T).ha (is_Ratio T).hn (is_Ratio T).ht (is_Ratio T).hm)
theorem isi_iR (T : Tx K mg) (q : Q (.bl false) H) : G.rIsiG K [.int i, .ref (He.ga K "Ratio")] H Q := G.isi_cl (.base (.int _)) (ki_int_Ratio T) q
theorem isi_R (T : Tx K mg) (h : IsR K H a t b) (q : Q (.bl true) H) : G.rIsiG K [.ref a, .ref (He.ga K "Ratio")] H Q := G.isi_cl (h.ty T) (ki_Ratio_Ratio T) q
theorem fld_top (T : Tx K mg) (h : IsR K H a t b) (q : Q (.int t) H) : G.FldK K "top" (.ref a) H Q := let ⟨_, e⟩ := h.at_; G.st_fldK e (cl_Ratio T) (na_Ratio_top T) lk1 q
theorem fld_bottom (T : Tx K mg) (h : IsR K H a t b) (q : Q (.int b) H) : G.FldK K "bottom" (.ref a) H Q := let ⟨_, e⟩ := h.at_; G.st_fldK e (cl_Ratio T) (na_Ratio_bottom T) lk2 q
theorem is_integer_i (q : Q (.bl true) H) : sp_is_integer [.int i] H Q E := ⟨i, rfl, q⟩
theorem common_divisor_i (q : Q (.int ((Int.gcd i j : Nat) : Int)) H) : sp_common_divisor [.int i, .int j] H Q E := ⟨i, j, rfl, q⟩
theorem parts_of_n (h : Num K H v t b) (q : ∀ p H', H p = none → G.Kp H H' → H' p = some (.tup [.int t, .int b]) → Q (.ref p) H') : sp_parts_of K [v] H Q E := ⟨v, t, b, rfl, h, q⟩
theorem parts_of_i (h : G.Bd 4000 i) (q : ∀ p H', H p = none → G.Kp H H' → H' p = some (.tup [.int i, .int 1]) → Q (.ref p) H') : sp_parts_of K [.int i] H Q E := parts_of_n (.of_int h) q
theorem parts_of_R (h : IsR K H a t b) (q : ∀ p H', H p = none → G.Kp H H' → H' p = some (.tup [.int t, .int b]) → Q (.ref p) H') : sp_parts_of K [.ref a] H Q E := parts_of_n (.of_r h) q
end
end Lw

-- Ratio: facts, fields
local macro_rules | `(tactic| walk_at "hp") => `(tactic| first
  | (refine Lw.IsR.kp (by assumption) ?_; walk_at "hp")
  | (refine Lw.IsR.md (by assumption) ?_; walk_at "hp")
  | (refine Lw.Num.kp (by assumption) ?_; walk_at "hp")
  | (refine Lw.Num.md (by assumption) ?_; walk_at "hp")
  | (refine Lw.Num.of_r ?_; walk_at "hp"))
local macro_rules | `(tactic| walk_at "gx") => `(tactic| first
  | ((with_reducible refine Lw.isi_iR (by assumption) ?_))
  | ((with_reducible refine Lw.isi_R (t := ?z0) (b := ?z1) (by assumption) ?h ?_); (case h => walk_at "hp"))
  | ((with_reducible refine Lw.fld_top (t := ?z0) (b := ?z1) (by assumption) ?h ?_); (case h => walk_at "hp"))
  | ((with_reducible refine Lw.fld_bottom (t := ?z0) (b := ?z1) (by assumption) ?h ?_); (case h => walk_at "hp"))
  | with_reducible refine Lw.is_integer_i ?_
  | with_reducible refine Lw.common_divisor_i ?_
  | ((with_reducible refine Lw.parts_of_i ?h ?_); (case h => walk_at "bdw"); intro _ _ _ _ _)
  | ((with_reducible refine Lw.parts_of_R (t := ?z0) (b := ?z1) ?h ?_); (case h => walk_at "hp"); intro _ _ _ _ _)
  | ((with_reducible refine Lw.parts_of_n (t := ?z0) (b := ?z1) ?h ?_); (case h => walk_at "hp"); intro _ _ _ _ _))

namespace Lw
open PySem PySem.Spec PyProof.Rows L2
section
variable {P : Program} {w : World} {K : PySem.W.Frag} {mg : Str → Option Value} {base : Heap}
theorem ok_parts_of (T : Tx K mg) : G.FnG P w K mg base CX0 1 (a_parts_of K) (G.fdOf K (a_parts_of K)) ["number"] (sp_parts_of K) := by
  refine G.ok_of (F_parts_of T) sc_parts_of (fun vs H Q E h => ?_) (fun cdv A outer s H vs Q E hr h => ?_)
  · obtain ⟨v, t, b, rfl, _⟩ := h
    rfl
  · obtain ⟨v, t, b, rfl, hv, q⟩ := h
    refine ⟨_, (pss_one (ps_ret (pe_ifExp (pt_val (pe_callB G.call_isiG (by rfl) (fr_isinstance T) boot_isinstance (pa_cons (pv 0) (pa_cons (G.pe_cl rfl (gl_Ratio T)) pa_nil)))) (pe_tup (pa_cons (pe_fld (pv 0) rfl) (pa_cons (pe_fld (pv 0) rfl) pa_nil))) (pe_tup (pa_cons (pv 0) (pa_cons pe_int pa_nil)))))), ?_⟩
    walk_at "start"
    rcases hv with ⟨rfl, rfl, _⟩ | ⟨a, rfl, ha⟩
    · walk_at "gob"
      exact q _ _ (by assumption) (by assumption) (by assumption)
    · walk_at "gob"
      exact q _ _ (by assumption) (by assumption) (by assumption)
def sp_need_divisor : Sp := fun vs H Q _ => ∃ i, vs = [.int i] ∧ i ≠ 0 ∧ Q .non H
theorem ok_need_divisor (T : Tx K mg) : G.FnG P w K mg base CX0 1 (a_need_divisor K) (G.fdOf K (a_need_divisor K)) ["number"] sp_need_divisor := by
  refine G.ok_of (F_need_divisor T) sc_need_divisor (fun vs H Q E h => ?_) (fun cdv A outer s H vs Q E hr h => ?_)
  · obtain ⟨i, rfl, _⟩ := h
    rfl
  · obtain ⟨i, rfl, hi, q⟩ := h
    refine ⟨_, (pss_one (ps_if (pt_cmpR (G.op_eqG hr.units) (pv 0) pe_int (nomark _)) (pss_one ps_never) pss_nil)), ?_⟩
    walk_at "start"
    walk_at "gob"
    exact q
theorem need_divisor_i {H : Hp} {Q : VK} {E : XK} {i : Int} (h : i ≠ 0) (q : Q .non H) : sp_need_divisor [.int i] H Q E := ⟨i, rfl, h, q⟩
/-- t / b in lowest terms is n / d -/
def Low (t b n d : Int) : Prop := 0 < d ∧ Int.gcd n d = 1 ∧ ∃ k, t = n * k ∧ b = d * k
theorem low_g {t b g : Int} (hg : 0 < g) (e : g = ((Int.gcd t b : Nat) : Int)) (hb : b ≠ 0) : ∃ c d, t = g * c ∧ b = g * d ∧ t / g = c ∧ b / g = d ∧ Int.gcd c d = 1 := by
  obtain ⟨c, hc⟩ := Int.gcd_dvd_left t b
  obtain ⟨d, hd⟩ := Int.gcd_dvd_right t b
  rw [← e] at hc hd
  refine ⟨c, d, hc, hd, Int.ediv_eq_of_eq_mul_right (by omega) hc, Int.ediv_eq_of_eq_mul_right (by omega) hd, ?_⟩
  have z : Int.gcd t b = g.natAbs * Int.gcd c d := by
    conv => lhs; rw [hc, hd]
    rw [Int.gcd_mul_left]
  have g0 : 0 < g.natAbs := by omega
  have : g.natAbs * 1 = g.natAbs * Int.gcd c d := by omega
  exact (Nat.eq_of_mul_eq_mul_left g0 this).symm
theorem gcd_pos' {t b : Int} (h : b ≠ 0) : (0 : Int) < ((Int.gcd t b : Nat) : Int) := by
  have := Int.gcd_pos_of_ne_zero_right t h
  omega
theorem low_pos {t b : Int} (h : 0 < b) : Low t b (t.fdiv (Int.gcd t b)) (b.fdiv (Int.gcd t b)) := by
  have hg := gcd_pos' (t := t) (b := b) (by omega)
  obtain ⟨c, d, hc, hd, e1, e2, e3⟩ := low_g hg rfl (by omega)
  rw [Int.fdiv_eq_ediv_of_nonneg _ (by omega), Int.fdiv_eq_ediv_of_nonneg _ (by omega), e1, e2]
  refine ⟨?_, e3, _, by rw [Int.mul_comm]; exact hc, by rw [Int.mul_comm]; exact hd⟩
  rcases Int.lt_trichotomy d 0 with z | z | z
  · have := Int.mul_neg_of_pos_of_neg hg z
    omega
  · subst z; omega
  · exact z
theorem low_neg {t b : Int} (h : b < 0) : Low t b (t.fdiv (-(Int.gcd t b))) (b.fdiv (-(Int.gcd t b))) := by
  have hg := gcd_pos' (t := t) (b := b) (by omega)
  obtain ⟨c, d, hc, hd, e1, e2, e3⟩ := low_g hg rfl (by omega)
  have key : ∀ g x y : Int, 0 < g → x = g * y → x.fdiv (-g) = -y := fun g x y hg hx => by
    rw [hx, show g * y = (-g) * (-y) by rw [Int.neg_mul_neg]]
    exact Int.mul_fdiv_cancel_left _ (by omega)
  have f1 := key _ _ _ hg hc
  have f2 := key _ _ _ hg hd
  rw [f1, f2]
  refine ⟨?_, by rw [Int.gcd_neg, Int.neg_gcd]; exact e3, -((Int.gcd t b : Nat) : Int), by rw [Int.neg_mul_neg, Int.mul_comm]; exact hc, by rw [Int.neg_mul_neg, Int.mul_comm]; exact hd⟩
  rcases Int.lt_trichotomy d 0 with z | z | z
  · omega
  · subst z; omega
  · have := Int.mul_pos hg z
    omega
theorem Low.le {t b n d : Int} (h : Low t b n d) (hb : b ≠ 0) : n.natAbs ≤ t.natAbs ∧ d.natAbs ≤ b.natAbs := by
  obtain ⟨_, _, k, e1, e2⟩ := h
  have hk : 1 ≤ k.natAbs := by
    rcases Nat.eq_zero_or_pos k.natAbs with z | z
    · have : k = 0 := by omega
      subst this
      simp at e2
      exact absurd e2 hb
    · exact z
  rw [e1, e2, Int.natAbs_mul, Int.natAbs_mul]
  exact ⟨Nat.le_mul_of_pos_right _ hk, Nat.le_mul_of_pos_right _ hk⟩
/-- lowest terms are the only ones -/
theorem Low.self {t b n d : Int} (h : Low t b n d) (hb : 0 < b) (hc : Int.gcd t b = 1) : n = t ∧ d = b := by
  obtain ⟨h0, h1, k, e1, e2⟩ := h
  have hk : Int.gcd t b = Int.gcd n d * k.natAbs := by rw [e1, e2, Int.gcd_mul_right]
  rw [hc, h1] at hk
  have k1 : k.natAbs = 1 := by omega
  have k2 : 0 < k := by
    rcases Int.lt_trichotomy k 0 with z | z | z
    · have := Int.mul_neg_of_pos_of_neg h0 z
      omega
    · omega
    · exact z
  have : k = 1 := by omega
  subst this
  rw [Int.mul_one] at e1 e2
  exact ⟨e1.symm, e2.symm⟩
/-- Ratio(t, b): the new instance -/
def sp_Ratio_init (K : PySem.W.Frag) : Sp := fun vs H Q _ => ∃ x dx t b, vs = [.ref x, .int t, .int b] ∧ H x = some (.ins (He.ga K "Ratio") dx []) ∧ b ≠ 0 ∧ G.Bd 4000 t ∧ G.Bd 4000 b ∧
  ∀ n d H', Low t b n d → (∀ c o, c ≠ x → H c = some o → H' c = some o) → H' x = some (.ins (He.ga K "Ratio") dx [("top", .int n), ("bottom", .int d)]) → Q .non H'
end
end Lw

local macro_rules | `(tactic| walk_at "gx") => `(tactic| first
  | ((with_reducible refine Lw.need_divisor_i ?h ?_); (case h => first | assumption | omega)))

namespace Lw
open PySem PySem.Spec PyProof.Rows L2
section
variable {P : Program} {w : World} {K : PySem.W.Frag} {mg : Str → Option Value} {base : Heap}
theorem pf_R {x y : V} : putF ("bottom" : Str) y (putF ("top" : Str) x []) = ([("top", x), ("bottom", y)] : List (Str × V)) := by
  have e : ¬ (("top" : Str) = "bottom") := by decide +kernel
  show (if ("top" : Str) = "bottom" then [(("top" : Str), y)] else (("top" : Str), x) :: putF "bottom" y []) = ([("top", x), ("bottom", y)] : List (Str × V))
  rw [if_neg e]
  rfl
theorem bd_gcd {m : Nat} {t b : Int} (h : G.Bd m b) (hb : b ≠ 0) : G.Bd m ((Int.gcd t b : Nat) : Int) := G.Bd.of_le h (by
  have : Int.gcd t b ∣ b.natAbs := Nat.gcd_dvd_right _ _
  have := Nat.le_of_dvd (by omega) this
  omega)
theorem init_end {H : Hp} {x dx : Addr} {t b s : Int} {σ : L2.St} {te tx : TE} {n : L2.St → Hp → Prop} {r : VK} {bk ct : L2.St → Hp → Prop} (T : Tx K mg) (hx : H x = some (.ins (He.ga K "Ratio") dx [])) (hs : s ≠ 0) (bs : G.Bd 4000 s)
    (he : ∀ H' (Q : VK), G.rDivG (.int b) (.int s) H' Q → te σ H' Q) (hv : ∀ H' (Q : VK), Q (.ref x) H' → tx σ H' Q)
    (q : ∀ H', (∀ c o, c ≠ x → H c = some o → H' c = some o) → H' x = some (.ins (He.ga K "Ratio") dx [("top", .int (t.fdiv s)), ("bottom", .int (b.fdiv s))]) → n σ H') :
    G.rDivG (.int t) (.int s) H fun y H1 => tx σ H1 fun x1 H2 => G.SFldK K "top" x1 y H2 (sFld K tx te "bottom" ⟨n, r, bk, ct⟩ σ) := by
  refine G.fdiv_ii hs bs (by decide) (hv _ _ ?_)
  refine G.st_setfldK hx (cl_Ratio T) (na_Ratio_top T) (by decide) ?_
  refine G.st_setfld (he _ _ (G.fdiv_ii hs bs (by decide) (hv _ _ ?_)))
  refine G.st_setfldK upd_same (cl_Ratio T) (na_Ratio_bottom T) (by show 1 < 1000; decide) ?_
  refine q _ (fun c o nc e => by rw [upd_ne nc, upd_ne nc]; exact e) ?_
  rw [upd_same]
  exact congrArg (fun z => some (HO.ins (He.ga K "Ratio") dx z)) pf_R
theorem ok_Ratio_init (T : Tx K mg) : G.FnG P w K mg base CX0 2 (a_Ratio_init K) (G.fdOf K (a_Ratio_init K)) ["self", "top", "bottom"] (sp_Ratio_init K) := by
  refine G.ok_of (F_Ratio_init T) sc_Ratio_init (fun vs H Q E h => ?_) (fun cdv A outer s H vs Q E hr h => ?_)
  · obtain ⟨x, dx, t, b, rfl, _⟩ := h
    rfl
  · obtain ⟨x, dx, t, b, rfl, hx, hb, bt, bb, q⟩ := h
    refine ⟨_, (pss_cons (ps_if (pt_not (pt_val (G.pe_callG (ok_is_integer T) (hr.mono (by first | decide | omega)) rfl (gl_is_integer T) (F_is_integer T).kp (bi_is_integer T) .nil pass0 (pa_cons (pv 1) pa_nil)))) (pss_one ps_never) pss_nil)
    (pss_cons (ps_if (pt_not (pt_val (G.pe_callG (ok_is_integer T) (hr.mono (by first | decide | omega)) rfl (gl_is_integer T) (F_is_integer T).kp (bi_is_integer T) .nil pass0 (pa_cons (pv 2) pa_nil)))) (pss_one ps_never) pss_nil)
    (pss_cons (ps_expr (G.pe_callG (ok_need_divisor T) (hr.mono (by first | decide | omega)) rfl (gl_need_divisor T) (F_need_divisor T).kp (bi_need_divisor T) .nil pass0 (pa_cons (pv 2) pa_nil)))
    (pss_cons (ps_set (i := 3) sc_Ratio_init.nd rfl (Or.inl rfl) (G.pe_callG (ok_common_divisor T) (hr.mono (by first | decide | omega)) rfl (gl_common_divisor T) (F_common_divisor T).kp (bi_common_divisor T) .nil pass0 (pa_cons (pv 1) (pa_cons (pv 2) pa_nil))))
    (pss_cons (ps_if (pt_cmpR G.op_ltG (pv 2) pe_int (nomark _)) (pss_one (ps_set (i := 3) sc_Ratio_init.nd rfl (Or.inl rfl) (pe_un G.un_negG (pv 3)))) pss_nil)
    (pss_cons (ps_fld (pv 0) (pe_op G.op_divG (pv 1) (pv 3)) rfl)
    (pss_one (ps_fld (pv 0) (pe_op G.op_divG (pv 2) (pv 3)) rfl)))))))), ?_⟩
    walk_at "start"
    walk_at "gob"
    · have h0 := gcd_pos' (t := t) hb
      refine init_end T hx (by omega) (bd_gcd bb hb).neg (fun H' Q h => ?_) (fun H' Q h => ?_) fun H' k e => q _ _ _ (low_neg (by omega)) k e
      · walk_at "go"; exact h
      · walk_at "go"; exact h
    · have h0 := gcd_pos' (t := t) hb
      refine init_end T hx (by omega) (bd_gcd bb hb) (fun H' Q h => ?_) (fun H' Q h => ?_) fun H' k e => q _ _ _ (low_pos (by omega)) k e
      · walk_at "go"; exact h
      · walk_at "go"; exact h
end
end Lw

namespace Lw
open PySem PySem.Spec PyProof.Rows L2
/-! ### the pen -/
section
variable {P : Program} {w : World} {K : PySem.W.Frag} {mg : Str → Option Value} {base : Heap} {H H' : Hp} {Q : VK} {E : XK} {p q l r x : Addr} {a b c d t m : Int} {v y : V} {n n' : Nat}
/-- the state of the drawing, its cells at l, at most n of them taken -/
def PenL (H : Hp) (p l : Addr) (n : Nat) : Prop := ∃ (i g : Int) (ns : List Int), H p = some (.lst [.ref l, .int i, .int g]) ∧ H l = some (.lst (ns.map V.int)) ∧ l ≠ p ∧ 0 ≤ i ∧ i ≤ (n : Int) ∧ 0 ≤ g ∧ ns.length ≤ 63
theorem PenL.mono (h : PenL H p l n) (e : n ≤ n') : PenL H p l n' := by
  obtain ⟨i, g, ns, h1, h2, h3, h4, h5, h6, h7⟩ := h
  exact ⟨i, g, ns, h1, h2, h3, h4, by omega, h6, h7⟩
theorem PenL.kp (k : G.Kp H H') (h : PenL H p l n) : PenL H' p l n := by
  obtain ⟨i, g, ns, h1, h2, h3⟩ := h
  exact ⟨i, g, ns, k _ _ h1, k _ _ h2, h3⟩
theorem PenL.is (h : PenL H p l n) : ∃ xs, H p = some (.lst xs) := let ⟨_, _, _, e, _⟩ := h; ⟨_, e⟩
/-- another list changes: the pen stays -/
theorem PenL.md (k : G.Md q H H') (n1 : p ≠ q) (n2 : l ≠ q) (h : PenL H p l n) : PenL H' p l n := by
  obtain ⟨i, g, ns, h1, h2, h3⟩ := h
  exact ⟨i, g, ns, k.lst h1 n1, k.lst h2 n2, h3⟩
theorem PenL.fresh (h : PenL H p l n) (e : H q = none) : p ≠ q ∧ l ≠ q := by
  obtain ⟨i, g, ns, h1, h2, h3⟩ := h
  exact ⟨ne_of_none h1 e, ne_of_none h2 e⟩
theorem dp_ints {ns : List Int} : DpAll K H (ns.map V.int) (ns.map PyData.int) := by
  induction ns with
  | nil => exact .nil
  | cons n r ih => exact .cons (.int n) ih
theorem lay_ints (ns : List Int) : PyData.canLayAll0 (ns.map PyData.int) = true ∧ PyData.depthAll (ns.map PyData.int) = 0 := by
  induction ns with
  | nil => exact ⟨rfl, rfl⟩
  | cons n r ih => exact ⟨by simp [PyData.canLayAll0, PyData.canLay0, ih.1], by simp [PyData.depthAll, PyData.depth, ih.2]⟩
theorem shaped_ints (ns : List Int) : SeqAt.shaped (.list (ns.map PyData.int)) = true := by
  have h := lay_ints ns
  simp [SeqAt.shaped, PyData.canLay0, PyData.depth, h.1, h.2]
theorem ne_empty {ns : List Int} (h1 : SqL K H p (ns.map V.int)) (h2 : SqL K H q []) (z : Q (.bl (!decide (ns = []))) H) : G.rNeG K (.ref p) (.ref q) H Q := by
  refine G.ne_dd (.lst h1 dp_ints) (.lst h2 .nil) (shaped_ints ns) (by decide) ?_
  have e : PyData.eqv (.list (ns.map PyData.int)) (.list []) = decide (ns = []) := by
    cases ns with
    | nil => rfl
    | cons n r => simp [PyData.eqv, PyData.eqvAll]
  rw [e]
  exact z
theorem mix_small {m b c1 c2 c3 : Int} (h0 : 0 ≤ m) (h1 : m < 2147483648) (h2 : 0 ≤ b) (h3 : b ≤ 1000000) (h4 : 0 ≤ c1) (h5 : c1 ≤ 1000) (h6 : 0 ≤ c2) (h7 : c2 ≤ 100000) (h8 : 0 ≤ c3) (h9 : c3 ≤ 1000000) :
    (m * (2 * b + c1) + c2 * b * b + c3).natAbs < 2 ^ 64 := by
  have e1 : m * (2 * b + c1) ≤ 2147483648 * 2001000 := Int.mul_le_mul (by omega) (by omega) (by omega) (by omega)
  have e2 : 0 ≤ m * (2 * b + c1) := Int.mul_nonneg h0 (by omega)
  have e3 : c2 * b ≤ 100000 * 1000000 := Int.mul_le_mul h7 h3 h2 (by omega)
  have e4 : 0 ≤ c2 * b := Int.mul_nonneg h6 h2
  have e5 : c2 * b * b ≤ (100000 * 1000000) * 1000000 := Int.mul_le_mul e3 h3 h2 (by omega)
  have e6 : 0 ≤ c2 * b * b := Int.mul_nonneg e4 h2
  omega
theorem cell_at {ns : List Int} {k : Int} (h0 : 0 ≤ k) (h1 : k < (ns.length : Int)) : ∃ c, atI (ns.map V.int) k = some (.int c) := by
  obtain ⟨j, rfl⟩ := Int.eq_ofNat_of_zero_le h0
  have hj : j < ns.length := by omega
  exact ⟨ns[j], atI_nat (by simp [hj])⟩
end
end Lw

local macro_rules | `(tactic| walk_at "gx") => `(tactic| ((with_reducible refine G.pow_ii (z := ?z0) ?h ?e ?_); (case h => (refine ⟨by omega, by omega, ?_⟩; refine Lw.mix_small ?_ ?_ ?_ ?_ ?_ ?_ ?_ ?_ ?_ ?_ <;> omega)); (case e => ((simp only [Int.reduceToNat]); rfl))))

namespace Lw
open PySem PySem.Spec PyProof.Rows L2
section
variable {P : Program} {w : World} {K : PySem.W.Frag} {mg : Str → Option Value} {base : Heap} {H H' : Hp} {Q : VK} {E : XK} {p q l r x : Addr} {a b c d t m : Int} {v y : V} {n n' : Nat}
def sp_draw : Sp := fun vs H Q _ => ∃ p l m n, vs = [.ref p, .int m] ∧ PenL H p l n ∧ n < 1000000 ∧ 0 < m ∧ G.Bd 8000 m ∧ ∀ d H', G.Md p H H' → PenL H' p l (n + 1) → 0 ≤ d → d < m → Q (.int d) H'
theorem ok_law_draw (T : Tx K mg) : G.FnG P w K mg base CX0 1 (a_law_draw K) (G.fdOf K (a_law_draw K)) ["_law_pen_here", "_law_many"] sp_draw := by
  refine G.ok_of (F_law_draw T) sc_law_draw (fun vs H Q E h => ?_) (fun cdv A outer s H vs Q E hr h => ?_)
  · obtain ⟨p, l, m, n, rfl, _⟩ := h
    rfl
  · obtain ⟨p, l, m, n, rfl, ⟨i, g, ns, hp, hl, nlp, i0, i1, g0, hz⟩, hn, m0, bm, q⟩ := h
    refine ⟨_, (pss_cons (ps_if (pt_cmpR G.op_gtG (pe_ix ix_seq (pv 0) pe_int (fun _ _ => rfl)) pe_int (nomark _)) (pss_cons (ps_set (i := 2) sc_law_draw.nd rfl (Or.inl rfl) (pe_op G.op_modG (pe_callTy G.call_intG (by rfl) (fr_int T) boot_int (pa_cons (pe_ix ix_seq (pv 0) pe_int (fun _ _ => rfl)) pa_nil)) (pv 1)))
    (pss_cons (ps_asg (pe_op G.op_divG (pe_callTy G.call_intG (by rfl) (fr_int T) boot_int (pa_cons (pe_ix ix_seq (pv 0) pe_int (fun _ _ => rfl)) pa_nil)) (pv 1)) (pg_sub (pv 0) pe_int set_list))
    (pss_one (ps_ret (pv 2))))) pss_nil)
    (pss_cons (ps_set (i := 3) sc_law_draw.nd rfl (Or.inl rfl) (pe_ix ix_seq (pv 0) pe_int (fun _ _ => rfl)))
    (pss_cons (ps_asg (pe_op G.op_addG (pv 3) pe_int) (pg_sub (pv 0) pe_int set_list))
    (pss_cons (ps_set (i := 4) sc_law_draw.nd rfl (Or.inl rfl) (pe_op G.op_addG (pe_op G.op_mulG pe_int (pv 3)) pe_int))
    (pss_cons (ps_if (pt_cmpR (G.op_neG hr.units) (pe_ix ix_seq (pv 0) pe_int (fun _ _ => rfl)) (pe_lst pa_nil) (nomark _)) (pss_one (ps_set (i := 4) sc_law_draw.nd rfl (Or.inl rfl) (pe_ix ix_seq (pe_ix ix_seq (pv 0) pe_int (fun _ _ => rfl)) (pe_op G.op_modG (pe_callTy G.call_intG (by rfl) (fr_int T) boot_int (pa_cons (pv 3) pa_nil)) (pe_callB G.call_lenG (by rfl) (fr_len T) PySem.boot_len (pa_cons (pe_ix ix_seq (pv 0) pe_int (fun _ _ => rfl)) pa_nil))) (fun _ _ => rfl)))) pss_nil)
    (pss_cons (ps_if (PW.pt (pw_and (pt_cmpR G.op_ltG (pv 3) (pe_callB G.call_lenG (by rfl) (fr_len T) PySem.boot_len (pa_cons (pe_ix ix_seq (pv 0) pe_int (fun _ _ => rfl)) pa_nil)) (nomark _)) (pw_and1 (pt_cmpR G.op_geG (pe_callB G.call_absG (by rfl) (fr_abs T) boot_abs (pa_cons (pv 4) pa_nil)) (pe_op G.op_powG pe_int pe_int) (nomark _))))) (pss_cons (ps_set (i := 5) sc_law_draw.nd rfl (Or.inl rfl) (pe_op G.op_addG (pe_op G.op_mulG pe_int (pe_op G.op_subG (pe_callB G.call_absG (by rfl) (fr_abs T) boot_abs (pa_cons (pv 4) pa_nil)) (pe_op G.op_powG pe_int pe_int))) (pe_callTy G.call_intG (by rfl) (fr_int T) boot_int (pa_cons (pe_cmpR G.op_ltG (pv 4) pe_int (nomark _)) pa_nil))))
    (pss_cons (ps_asg (pe_op G.op_divG (pe_callTy G.call_intG (by rfl) (fr_int T) boot_int (pa_cons (pv 5) pa_nil)) (pv 1)) (pg_sub (pv 0) pe_int set_list))
    (pss_one (ps_ret (pe_op G.op_modG (pe_callTy G.call_intG (by rfl) (fr_int T) boot_int (pa_cons (pv 5) pa_nil)) (pv 1)))))) pss_nil)
    (pss_cons (ps_set (i := 6) sc_law_draw.nd rfl (Or.inl rfl) (pe_op G.op_modG (pe_callTy G.call_intG (by rfl) (fr_int T) boot_int (pa_cons (pe_op G.op_powG (pe_op G.op_addG (pe_op G.op_addG (pe_op G.op_modG (pe_callTy G.call_intG (by rfl) (fr_int T) boot_int (pa_cons (pv 4) pa_nil)) pe_int) (pe_op G.op_mulG pe_int (pv 3))) pe_int) pe_int) pa_nil)) pe_int))
    (pss_cons (ps_set (i := 6) sc_law_draw.nd rfl (Or.inl rfl) (pe_op G.op_modG (pe_callTy G.call_intG (by rfl) (fr_int T) boot_int (pa_cons (pe_op G.op_powG (pe_op G.op_addG (pe_op G.op_addG (pe_op G.op_mulG (pv 6) (pe_op G.op_addG (pe_op G.op_mulG pe_int (pv 3)) pe_int)) (pe_op G.op_mulG (pe_op G.op_mulG pe_int (pv 3)) (pv 3))) pe_int) pe_int) pa_nil)) pe_int))
    (pss_one (ps_ret (pe_op G.op_modG (pe_callTy G.call_intG (by rfl) (fr_int T) boot_int (pa_cons (pe_op G.op_divG (pv 6) pe_int) pa_nil)) (pv 1)))))))))))), ?_⟩
    walk_at "start"
    walk_at "gob"
    · rename_i k2 e2
      exact q _ _ k2 ⟨i, g / m, ns, e2, k2.lst hl nlp, nlp, i0, by omega, Int.ediv_nonneg g0 (by omega), hz⟩ (Int.emod_nonneg _ (by omega)) (Int.emod_lt_of_pos _ m0)
    · rename_i H1 m1 e1 z H2 _ k2 e2
      have hlen : (ns.map V.int).length = ns.length := List.length_map ..
      have hl2 : H2 l = some (.lst (ns.map V.int)) := by walk_at "hp"
      refine ne_empty (SqL.of hl2) (SqL.of e2) ?_
      have e3 := k2 _ _ e1
      have m3 := m1.kp_r k2
      clear m1 e1 k2 e2
      have pen : ∀ d, 0 ≤ d → d < m → Q (.int d) H2 := fun d d0 d1 => q d H2 m3 ⟨i + 1, g, ns, e3, hl2, nlp, by omega, by omega, g0, hz⟩ d0 d1
      have fin : ∀ y : Int, Q (.int (y % m)) H2 := fun y => pen _ (Int.emod_nonneg _ (by omega)) (Int.emod_lt_of_pos _ m0)
      have great : ∀ y : Int, 0 ≤ y → ∀ H', G.Md p H2 H' → H' p = some (.lst [.ref l, .int (i + 1), .int (y / m)]) → Q (.int (y % m)) H' := fun y y0 H' k e =>
        q _ _ (m3.trans k) ⟨i + 1, y / m, ns, e, k.lst hl2 nlp, nlp, by omega, by omega, Int.ediv_nonneg y0 (by omega), hz⟩ (Int.emod_nonneg _ (by omega)) (Int.emod_lt_of_pos _ m0)
      clear q
      have ilt : i ≤ 1000000 := by omega
      by_cases hns : ns = []
      · have hpos : (ns.map V.int).length = 0 := by rw [hlen, hns]; rfl
        walk_at "gob"
        all_goals exact fin _
      · have hpos : 0 < ((ns.map V.int).length : Int) := by
          rw [hlen]
          have := List.length_pos_iff.mpr hns
          omega
        walk_at "gob"
        obtain ⟨c, hc⟩ := cell_at (ns := ns) (k := i % ((ns.map V.int).length : Int)) (Int.emod_nonneg _ (by omega)) (by rw [← hlen]; exact Int.emod_lt_of_pos _ hpos)
        refine G.ix_l (SqL.of hl2) hc ?_
        clear hc
        walk_at "gob"
        · exact great _ (by split <;> omega) _ (by assumption) (by assumption)
        all_goals exact fin _
theorem draw_p (hp : PenL H p l n) (hn : n < 1000000) (m0 : 0 < m) (bm : G.Bd 8000 m) (z : ∀ d H', G.Md p H H' → PenL H' p l (n + 1) → 0 ≤ d → d < m → Q (.int d) H') : sp_draw [.ref p, .int m] H Q E := ⟨p, l, m, n, rfl, hp, hn, m0, bm, z⟩
/-- the pen begins -/
def sp_pen (K : PySem.W.Frag) : Sp := fun vs H Q _ => ∃ (x : Addr) (ns : List Int), vs = [.ref x] ∧ SqL K H x (ns.map V.int) ∧ ns.length ≤ 63 ∧ ∀ p l H', H p = none → G.Kp H H' → PenL H' p l 0 → Q (.ref p) H'
theorem cut_ints (ns : List Int) (lo hi : Option Int) : ∃ ms : List Int, cutV (ns.map V.int) lo hi = ms.map V.int ∧ ms.length ≤ ns.length :=
  ⟨(ns.drop (HT.sIx ns.length 0 lo)).take (HT.sIx ns.length ns.length hi - HT.sIx ns.length 0 lo), by rw [cutV, List.length_map, List.map_take, List.map_drop], by rw [List.length_take, List.length_drop]; omega⟩
theorem ok_law_pen (T : Tx K mg) : G.FnG P w K mg base CX0 1 (a_law_pen K) (G.fdOf K (a_law_pen K)) ["_law_script"] (sp_pen K) := by
  refine G.ok_of (F_law_pen T) sc_law_pen (fun vs H Q E h => ?_) (fun cdv A outer s H vs Q E hr h => ?_)
  · obtain ⟨x, ns, rfl, _⟩ := h
    rfl
  · obtain ⟨x, ns, rfl, hx, ln, q⟩ := h
    refine ⟨_, (pss_one (ps_ret (pe_lst (pa_cons (pe_callTy G.call_listG (by rfl) (fr_list T) boot_list (pa_cons (pe_slice G.sl_G (pv 0) po_none (po_some pe_int)) pa_nil)) (pa_cons pe_int (pa_cons pe_int pa_nil)))))), ?_⟩
    walk_at "start"
    walk_at "go"
    obtain ⟨ms, em, lm⟩ := cut_ints ns none (some 63)
    rename_i p1 H1 n1 k1 e1 p2 H2 n2 k2 e2 p3 H3 n3 k3 e3
    rw [em] at e2
    exact q p3 p2 H3 (by walk_at "fr") ((k1.trans k2).trans k3) ⟨0, 0, ms, e3, k3 _ _ e2, ne_of_none e2 n3, by omega, by omega, by omega, by omega⟩
theorem pen_s {ns : List Int} (h : SqL K H x (ns.map V.int)) (l : ns.length ≤ 63) (q : ∀ p l H', H p = none → G.Kp H H' → PenL H' p l 0 → Q (.ref p) H') : sp_pen K [.ref x] H Q E := ⟨x, ns, rfl, h, l, q⟩
end
end Lw

local macro_rules | `(tactic| walk_at "hp") => `(tactic| first
  | (refine Lw.PenL.kp (by assumption) ?_; walk_at "hp"))
local macro_rules | `(tactic| walk_at "gx") => `(tactic| first
  | ((with_reducible refine Lw.draw_p (l := ?z0) (n := ?z1) ?h1 ?h2 ?h3 ?h4 ?_); (case h1 => walk_at "hp"); (case h2 => omega); (case h3 => omega); (case h4 => walk_at "bdw"); intro _ _ _ _ _ _)
  | ((with_reducible refine Lw.pen_s (ns := ?z0) ?h1 ?h2 ?_); (case h1 => walk_at "hp"); (case h2 => assumption); intro _ _ _ _ _ _))

namespace Lw
open PySem PySem.Spec PyProof.Rows L2
section
variable {P : Program} {w : World} {K : PySem.W.Frag} {mg : Str → Option Value} {base : Heap} {H H' : Hp} {Q : VK} {E : XK} {p q l r x u : Addr} {a b c d t m : Int} {v y : V} {n n' : Nat} {xs : List V}
/-- one of the values of a list -/
def sp_pick : Sp := fun vs H Q _ => ∃ p r l n xs, vs = [.ref p, .ref r] ∧ PenL H p l n ∧ n < 1000000 ∧ H r = some (.lst xs) ∧ r ≠ p ∧ xs ≠ [] ∧ xs.length ≤ 1000 ∧ ∀ v H', v ∈ xs → G.Md p H H' → PenL H' p l (n + 1) → Q v H'
theorem atI_mem {xs : List V} {k : Int} (h0 : 0 ≤ k) (h1 : k < (xs.length : Int)) : ∃ v, v ∈ xs ∧ atI xs k = some v := by
  obtain ⟨j, rfl⟩ := Int.eq_ofNat_of_zero_le h0
  have hj : j < xs.length := by omega
  exact ⟨xs[j], List.getElem_mem hj, atI_nat (by simp [hj])⟩
theorem ok_law_pick (T : Tx K mg) : G.FnG P w K mg base CX0 2 (a_law_pick K) (G.fdOf K (a_law_pick K)) ["_law_pen_here", "_law_some"] sp_pick := by
  refine G.ok_of (F_law_pick T) sc_law_pick (fun vs H Q E h => ?_) (fun cdv A outer s H vs Q E hr h => ?_)
  · obtain ⟨p, r, l, n, xs, rfl, _⟩ := h
    rfl
  · obtain ⟨p, r, l, n, xs, rfl, hp, hn, hl, nlp, ne, lz, q⟩ := h
    have l0 : 0 < xs.length := List.length_pos_iff.mpr ne
    have bz : G.Bd 8000 (xs.length : Int) := (G.Bd.of_le (G.Bd.lit 1000) (by omega)).mono (by decide +kernel)
    refine ⟨_, (pss_one (ps_ret (pe_ix ix_seq (pv 1) (G.pe_callG (ok_law_draw T) (hr.mono (by first | decide | omega)) rfl (gl_law_draw T) (F_law_draw T).kp (bi_law_draw T) .nil pass0 (pa_cons (pv 0) (pa_cons (pe_callB G.call_lenG (by rfl) (fr_len T) PySem.boot_len (pa_cons (pv 1) pa_nil)) pa_nil))) (fun _ _ => rfl)))), ?_⟩
    walk_at "start"
    walk_at "go"
    rename_i d H1 k1 p1 d0 d1
    obtain ⟨v, hv, hat⟩ := atI_mem d0 d1
    refine G.ix_l (SqL.of (k1.lst hl nlp)) hat ?_
    exact q v H1 hv k1 p1
theorem pick_p (hp : PenL H p l n) (hn : n < 1000000) (hl : H r = some (.lst xs)) (nlp : r ≠ p) (ne : xs ≠ []) (lz : xs.length ≤ 1000) (z : ∀ v H', v ∈ xs → G.Md p H H' → PenL H' p l (n + 1) → Q v H') : sp_pick [.ref p, .ref r] H Q E := ⟨p, r, l, n, xs, rfl, hp, hn, hl, nlp, ne, lz, z⟩
theorem PenL.neu (e : H u = none) (h : PenL H p l n) : u ≠ p := (h.fresh e).1.symm
end
end Lw

local macro_rules | `(tactic| walk_at "gx") => `(tactic| ((with_reducible refine Lw.pick_p (l := ?z2) (n := ?z0) (xs := ?z1) ?h1 ?h2 ?h3 ?h4 ?h5 ?h6 ?_); (case h1 => walk_at "hp"); (case h2 => omega); (case h3 => walk_at "hp"); (case h4 => first | assumption | (apply Ne.symm; assumption) | (refine Lw.PenL.neu (H := ?zH) (l := ?zl) (n := ?zn) ?e1 ?e2; (case e1 => assumption); (case e2 => walk_at "hp"))); (case h5 => first | (intro hz; cases hz) | simp); (case h6 => (simp only [List.length_cons, List.length_nil, List.length_append]; omega)); intro _ _ _ _ _))
local macro_rules | `(tactic| walk_at "hp") => `(tactic| (with_reducible refine G.Md.lst (p := ?zp) (H := ?zG) ?hm ?hh ?hn; (case hm => assumption); (case hn => refine Lw.PenL.neu (H := ?zH) (l := ?zl) (n := ?zn) ?e1 ?e2; (case e1 => assumption); (case e2 => walk_at "hp")); (case hh => walk_at "hp")))
local macro_rules | `(tactic| walk_at "g") => `(tactic| ((with_reducible refine G.add_ll (xs := ?z0) (ys := ?z1) ?h1 ?h2 ?l ?_); (case h1 => walk_at "hp"); (case h2 => walk_at "hp"); (case l => (simp only [List.length_cons, List.length_nil]; omega)); intro _ _ _ _ _))

namespace Lw
open PySem PySem.Spec PyProof.Rows L2
section
variable {P : Program} {w : World} {K : PySem.W.Frag} {mg : Str → Option Value} {base : Heap} {H H' : Hp} {Q : VK} {E : XK} {a p : Addr} {t b n d i j t' b' : Int} {v y : V}
theorem mk_R (hb : b ≠ 0) (bt : G.Bd 4000 t) (bb : G.Bd 4000 b) (q : ∀ x H' n d, H x = none → G.Kp H H' → IsR K H' x n d → Low t b n d → Q (.ref x) H') : G.MakeK (He.ga K "Ratio") (sp_Ratio_init K) [] E [.int t, .int b] H Q :=
  G.st_mkK fun x dx H1 hn k hx => ⟨x, dx, t, b, rfl, hx, hb, bt, bb, fun n d H' low j e => ⟨rfl, q x H' n d hn (G.Kp.init hn k j) ⟨⟨dx, e⟩, low.1, low.2.1, bt.of_le (low.le hb).1, bb.of_le (low.le hb).2⟩ low⟩⟩
/-- lowest terms given: the same -/
theorem mk_Rs (hb : 0 < b) (hc : Int.gcd t b = 1) (bt : G.Bd 4000 t) (bb : G.Bd 4000 b) (q : ∀ x H', H x = none → G.Kp H H' → IsR K H' x t b → Q (.ref x) H') : G.MakeK (He.ga K "Ratio") (sp_Ratio_init K) [] E [.int t, .int b] H Q :=
  mk_R (by omega) bt bb fun x H' n d hn k h l => by
    obtain ⟨rfl, rfl⟩ := l.self hb hc
    exact q x H' hn k h
def sp_is_number (K : PySem.W.Frag) : Sp := fun vs H Q _ => ∃ v t b, vs = [v] ∧ Num K H v t b ∧ Q (.bl true) H
theorem ok_Ratio_is_number (T : Tx K mg) : G.FnG P w K mg base CX0 2 (a_Ratio_is_number K) (G.fdOf K (a_Ratio_is_number K)) ["value"] (sp_is_number K) := by
  refine G.ok_of (F_Ratio_is_number T) sc_Ratio_is_number (fun vs H Q E h => ?_) (fun cdv A outer s H vs Q E hr h => ?_)
  · obtain ⟨v, t, b, rfl, _⟩ := h
    rfl
  · obtain ⟨v, t, b, rfl, hv, q⟩ := h
    refine ⟨_, (pss_one (ps_ret (pe_or (pe_callB G.call_isiG (by rfl) (fr_isinstance T) boot_isinstance (pa_cons (pv 0) (pa_cons (G.pe_cl rfl (gl_Ratio T)) pa_nil))) (pe_one (G.pe_callG (ok_is_integer T) (hr.mono (by first | decide | omega)) rfl (gl_is_integer T) (F_is_integer T).kp (bi_is_integer T) .nil pass0 (pa_cons (pv 0) pa_nil)))))), ?_⟩
    walk_at "start"
    rcases hv with ⟨rfl, rfl, _⟩ | ⟨a, rfl, ha⟩
    · walk_at "gob"
      exact q
    · walk_at "gob"
      exact q
theorem is_number_n (h : Num K H v t b) (q : Q (.bl true) H) : sp_is_number K [v] H Q E := ⟨v, t, b, rfl, h, q⟩
theorem is_number_i (h : G.Bd 4000 i) (q : Q (.bl true) H) : sp_is_number K [.int i] H Q E := is_number_n (.of_int h) q
theorem is_number_R (h : IsR K H a t b) (q : Q (.bl true) H) : sp_is_number K [.ref a] H Q E := is_number_n (.of_r h) q
def sp_of (K : PySem.W.Frag) : Sp := fun vs H Q _ => ∃ v t b, vs = [v] ∧ Num K H v t b ∧ ∀ x H', H x = none → G.Kp H H' → IsR K H' x t b → Q (.ref x) H'
end
end Lw

local macro_rules | `(tactic| walk_at "gx") => `(tactic| first
  | ((with_reducible refine Lw.is_number_i ?h ?_); (case h => walk_at "bdw"))
  | ((with_reducible refine Lw.is_number_R (t := ?z0) (b := ?z1) ?h ?_); (case h => walk_at "hp"))
  | ((with_reducible refine Lw.is_number_n (t := ?z0) (b := ?z1) ?h ?_); (case h => walk_at "hp"))
  | ((with_reducible refine Lw.mk_Rs ?h1 ?h2 ?h3 ?h4 ?_); (case h1 => first | assumption | omega); (case h2 => assumption); (case h3 => walk_at "bdw"); (case h4 => walk_at "bdw"); intro _ _ _ _ _)
  | ((with_reducible refine Lw.mk_R ?h1 ?h3 ?h4 ?_); (case h1 => first | assumption | omega); (case h3 => walk_at "bdw"); (case h4 => walk_at "bdw"); intro _ _ _ _ _ _ _ _))

namespace Lw
open PySem PySem.Spec PyProof.Rows L2
/-! ### fractions: what is asked of them here -/
section
variable {P : Program} {w : World} {K : PySem.W.Frag} {mg : Str → Option Value} {base : Heap} {H H' : Hp} {Q : VK} {E : XK} {a p x y : Addr} {t b n d i j t' b' n' d' : Int} {v : V}
theorem dvd_cop {n d m : Int} (c : Int.gcd n d = 1) (h : d ∣ n * m) : d ∣ m := by
  have h1 : d.natAbs ∣ n.natAbs * m.natAbs := by
    rw [← Int.natAbs_mul]
    exact Int.natAbs_dvd_natAbs.mpr h
  have c1 : Nat.Coprime d.natAbs n.natAbs := (Nat.gcd_comm _ _).trans c
  exact Int.natAbs_dvd_natAbs.mp (Nat.Coprime.dvd_of_dvd_mul_left c1 h1)
theorem Low.uniq (hb : b ≠ 0) (h : Low t b n d) (k : Low t b n' d') : n = n' ∧ d = d' := by
  obtain ⟨p1, c1, g, e1, e2⟩ := h
  obtain ⟨p2, c2, g', e3, e4⟩ := k
  have gp : g ≠ 0 := fun z => hb (by rw [e2, z, Int.mul_zero])
  have gp' : g' ≠ 0 := fun z => hb (by rw [e4, z, Int.mul_zero])
  have q1 : n * g = n' * g' := by rw [← e1, ← e3]
  have q2 : d * g = d' * g' := by rw [← e2, ← e4]
  have cross : n * d' = n' * d := by
    have q3 : (n * d') * (g * g') = (n' * d) * (g * g') := by
      calc (n * d') * (g * g') = (n * g) * (d' * g') := by simp only [Int.mul_assoc, Int.mul_left_comm, Int.mul_comm]
        _ = (n' * g') * (d * g) := by rw [q1, q2]
        _ = (n' * d) * (g * g') := by simp only [Int.mul_assoc, Int.mul_left_comm, Int.mul_comm]
    exact Int.eq_of_mul_eq_mul_right (Int.mul_ne_zero gp gp') q3
  have d1 : d ∣ d' := dvd_cop c1 ⟨n', by rw [cross, Int.mul_comm]⟩
  have d2 : d' ∣ d := dvd_cop c2 ⟨n, by rw [← cross, Int.mul_comm]⟩
  have ed : d = d' := Int.le_antisymm (Int.le_of_dvd p2 d1) (Int.le_of_dvd p1 d2)
  subst ed
  exact ⟨Int.eq_of_mul_eq_mul_right (by omega) cross, rfl⟩
/-! promises -/
def sp_Rfifth (K : PySem.W.Frag) : Sp := fun vs H Q _ => ∃ a t b, vs = [.ref a] ∧ IsR K H a t b ∧ 0 < t ∧ t < b ∧ Q (.bl true) H
def sp_need_fifth (K : PySem.W.Frag) : Sp := fun vs H Q _ => ∃ a t b, vs = [.ref a] ∧ IsR K H a t b ∧ 0 < t ∧ t < b ∧ Q .non H
def sp_key_of (K : PySem.W.Frag) : Sp := fun vs H Q _ => ∃ a t b n, vs = [.int n, .ref a] ∧ IsR K H a t b ∧ G.Bd 700 n ∧ Q (.int (n * t % b)) H
def sp_Radd (K : PySem.W.Frag) : Sp := fun vs H Q _ => ∃ a t b v t' b', vs = [.ref a, v] ∧ IsR K H a t b ∧ Num K H v t' b' ∧ G.Bd 900 t ∧ G.Bd 900 b ∧ G.Bd 900 t' ∧ G.Bd 900 b' ∧ ∀ z H' n d, H z = none → G.Kp H H' → IsR K H' z n d → Low (t * b' + t' * b) (b * b') n d → Q (.ref z) H'
def sp_Rneg (K : PySem.W.Frag) : Sp := fun vs H Q _ => ∃ a t b, vs = [.ref a] ∧ IsR K H a t b ∧ ∀ z H', H z = none → G.Kp H H' → IsR K H' z (-t) b → Q (.ref z) H'
def sp_Rrsub (K : PySem.W.Frag) : Sp := fun vs H Q _ => ∃ a t b, vs = [.ref a, .int 1] ∧ IsR K H a t b ∧ G.Bd 900 t ∧ G.Bd 900 b ∧ ∀ z H', H z = none → G.Kp H H' → IsR K H' z (b - t) b → Q (.ref z) H'
def sp_Req (K : PySem.W.Frag) : Sp := fun vs H Q _ => ∃ a t b v t' b', vs = [.ref a, v] ∧ IsR K H a t b ∧ Num K H v t' b' ∧ ∀ H', G.Kp H H' → Q (.bl (decide (t = t' ∧ b = b'))) H'
theorem ok_Ratio_is_fifth (T : Tx K mg) : G.FnG P w K mg base CX0 1 (a_Ratio_is_fifth K) (G.fdOf K (a_Ratio_is_fifth K)) ["value"] (sp_Rfifth K) := by
  refine G.ok_of (F_Ratio_is_fifth T) sc_Ratio_is_fifth (fun vs H Q E h => ?_) (fun cdv A outer s H vs Q E hr h => ?_)
  · obtain ⟨a, t, b, rfl, _⟩ := h
    rfl
  · obtain ⟨a, t, b, rfl, ha, h0, h1, q⟩ := h
    rw [show true = decide (t < b) by simp [h1]] at q
    refine ⟨_, (pss_one (ps_ret (pe_and (pe_callB G.call_isiG (by rfl) (fr_isinstance T) boot_isinstance (pa_cons (pv 0) (pa_cons (G.pe_cl rfl (gl_Ratio T)) pa_nil))) (pe_one (pe_chain G.op_ltG G.op_ltG pe_int (pe_fld (pv 0) rfl) (pe_fld (pv 0) rfl)))))), ?_⟩
    walk_at "start"
    walk_at "gob"
    exact q
theorem ok_key_of (T : Tx K mg) : G.FnG P w K mg base CX0 1 (a_key_of K) (G.fdOf K (a_key_of K)) ["number", "fifth"] (sp_key_of K) := by
  refine G.ok_of (F_key_of T) sc_key_of (fun vs H Q E h => ?_) (fun cdv A outer s H vs Q E hr h => ?_)
  · obtain ⟨a, t, b, n, rfl, _⟩ := h
    rfl
  · obtain ⟨a, t, b, n, rfl, ha, bn, q⟩ := h
    have bt := ha.bt
    have h0 := ha.pos
    refine ⟨_, (pss_one (ps_ret (pe_callTy G.call_intG (by rfl) (fr_int T) boot_int (pa_cons (pe_op G.op_modG (pe_op G.op_mulG (pv 0) (pe_fld (pv 1) rfl)) (pe_fld (pv 1) rfl)) pa_nil)))), ?_⟩
    walk_at "start"
    walk_at "gob"
    exact q
theorem ok_Ratio_add (T : Tx K mg) : G.FnG P w K mg base CX0 5 (a_Ratio_add K) (G.fdOf K (a_Ratio_add K)) ["self", "other"] (sp_Radd K) := by
  refine G.ok_of (F_Ratio_add T) sc_Ratio_add (fun vs H Q E h => ?_) (fun cdv A outer s H vs Q E hr h => ?_)
  · obtain ⟨a, t, b, v, t', b', rfl, _⟩ := h
    rfl
  · obtain ⟨a, t, b, v, t', b', rfl, ha, hv, b1, b2, b3, b4, q⟩ := h
    have hp : b * b' ≠ 0 := Int.ne_of_gt (Int.mul_pos ha.pos hv.pos)
    refine ⟨_, (pss_cons (ps_if (pt_not (pt_val (G.pe_smeth (G.pe_cl rfl (gl_Ratio T)) (rd_Ratio T) (sm_Ratio_is_number T) (ok_Ratio_is_number T) (hr.mono (by first | decide | omega)) (bi_Ratio_is_number T) .nil pass0 (pa_cons (pv 1) pa_nil)))) (pss_one ps_never) pss_nil)
    (pss_cons (ps_asg (G.pe_callG (ok_parts_of T) (hr.mono (by first | decide | omega)) rfl (gl_parts_of T) (F_parts_of T).kp (bi_parts_of T) .nil pass0 (pa_cons (pv 1) pa_nil)) (pg_tup (n := 2) (by rfl) (pgs_cons (pg_name (i := 2) sc_Ratio_add.nd rfl (Or.inl rfl)) (pgs_cons (pg_name (i := 3) sc_Ratio_add.nd rfl (Or.inl rfl)) pgs_nil))))
    (pss_one (ps_ret (G.pe_makeG (mk_Ratio T) (ok_Ratio_init T) (hr.mono (by first | decide | omega)) rfl (gl_Ratio T) (bi_Ratio_init T) .nil pass0 (pa_cons (pe_op G.op_addG (pe_op G.op_mulG (pe_fld (pv 0) rfl) (pv 3)) (pe_op G.op_mulG (pv 2) (pe_fld (pv 0) rfl))) (pa_cons (pe_op G.op_mulG (pe_fld (pv 0) rfl) (pv 3)) pa_nil))))))), ?_⟩
    walk_at "start"
    walk_at "gob"
    exact q _ _ _ _ (by walk_at "fr") (by walk_at "kp") (by assumption) (by assumption)
theorem ok_Ratio_neg (T : Tx K mg) : G.FnG P w K mg base CX0 4 (a_Ratio_neg K) (G.fdOf K (a_Ratio_neg K)) ["self"] (sp_Rneg K) := by
  refine G.ok_of (F_Ratio_neg T) sc_Ratio_neg (fun vs H Q E h => ?_) (fun cdv A outer s H vs Q E hr h => ?_)
  · obtain ⟨a, t, b, rfl, _⟩ := h
    rfl
  · obtain ⟨a, t, b, rfl, ha, q⟩ := h
    have bt := ha.bt
    have bb := ha.bb
    have h0 := ha.pos
    have hc : Int.gcd (-t) b = 1 := by rw [Int.neg_gcd]; exact ha.cop
    refine ⟨_, (pss_one (ps_ret (G.pe_makeG (mk_Ratio T) (ok_Ratio_init T) (hr.mono (by first | decide | omega)) rfl (gl_Ratio T) (bi_Ratio_init T) .nil pass0 (pa_cons (pe_un G.un_negG (pe_fld (pv 0) rfl)) (pa_cons (pe_fld (pv 0) rfl) pa_nil))))), ?_⟩
    walk_at "start"
    walk_at "gob"
    exact q _ _ (by walk_at "fr") (by walk_at "kp") (by assumption)
theorem ok_Ratio_eq (T : Tx K mg) : G.FnG P w K mg base CX0 4 (a_Ratio_eq K) (G.fdOf K (a_Ratio_eq K)) ["self", "other"] (sp_Req K) := by
  refine G.ok_of (F_Ratio_eq T) sc_Ratio_eq (fun vs H Q E h => ?_) (fun cdv A outer s H vs Q E hr h => ?_)
  · obtain ⟨a, t, b, v, t', b', rfl, _⟩ := h
    rfl
  · obtain ⟨a, t, b, v, t', b', rfl, ha, hv, q⟩ := h
    refine ⟨_, (pss_one (ps_ret (pe_and (G.pe_smeth (G.pe_cl rfl (gl_Ratio T)) (rd_Ratio T) (sm_Ratio_is_number T) (ok_Ratio_is_number T) (hr.mono (by first | decide | omega)) (bi_Ratio_is_number T) .nil pass0 (pa_cons (pv 1) pa_nil)) (pe_one (pe_cmpR (G.op_eqG hr.units) (pe_tup (pa_cons (pe_fld (pv 0) rfl) (pa_cons (pe_fld (pv 0) rfl) pa_nil))) (G.pe_callG (ok_parts_of T) (hr.mono (by first | decide | omega)) rfl (gl_parts_of T) (F_parts_of T).kp (bi_parts_of T) .nil pass0 (pa_cons (pv 1) pa_nil)) (nomark _)))))), ?_⟩
    walk_at "start"
    walk_at "gob"
    exact q _ (by walk_at "kp")
/-! rows -/
theorem Rfifth_R (h : IsR K H a t b) (h0 : 0 < t) (h1 : t < b) (q : Q (.bl true) H) : sp_Rfifth K [.ref a] H Q E := ⟨a, t, b, rfl, h, h0, h1, q⟩
theorem need_fifth_R (h : IsR K H a t b) (h0 : 0 < t) (h1 : t < b) (q : Q .non H) : sp_need_fifth K [.ref a] H Q E := ⟨a, t, b, rfl, h, h0, h1, q⟩
theorem key_of_R (h : IsR K H a t b) (bn : G.Bd 700 n) (q : Q (.int (n * t % b)) H) : sp_key_of K [.int n, .ref a] H Q E := ⟨a, t, b, n, rfl, h, bn, q⟩
theorem neg_R (h : IsR K H a t b) (q : ∀ z H', H z = none → G.Kp H H' → IsR K H' z (-t) b → Q (.ref z) H') : G.rNegO (He.ga K "Ratio") (sp_Rneg K) E (.ref a) H Q :=
  let ⟨dx, e1⟩ := h.at_
  ⟨a, dx, _, rfl, e1, a, t, b, rfl, h, q⟩
theorem add_Ri (h : IsR K H a t b) (b1 : G.Bd 900 t) (b2 : G.Bd 900 b) (b3 : G.Bd 900 i) (q : ∀ z H' n d, H z = none → G.Kp H H' → IsR K H' z n d → Low (t * 1 + i * b) (b * 1) n d → Q (.ref z) H') : G.rBinI (He.ga K "Ratio") (sp_Radd K) E (.ref a) (.int i) H Q :=
  let ⟨dx, e1⟩ := h.at_
  ⟨a, dx, _, i, rfl, rfl, e1, a, t, b, .int i, i, 1, rfl, h, .of_int (b3.mono (by decide)), b1, b2, b3, (G.Bd.lit 1).mono (by decide), q⟩
theorem rsub_R (h : IsR K H a t b) (b1 : G.Bd 900 t) (b2 : G.Bd 900 b) (q : ∀ z H', H z = none → G.Kp H H' → IsR K H' z (b - t) b → Q (.ref z) H') : G.rBinR (He.ga K "Ratio") (sp_Rrsub K) E (.int 1) (.ref a) H Q :=
  let ⟨dx, e1⟩ := h.at_
  ⟨a, dx, _, 1, rfl, rfl, e1, a, t, b, rfl, h, b1, b2, q⟩
theorem ne_RR (T : Tx K mg) (h : IsR K H a t b) (k : IsR K H x t' b') (q : ∀ H', G.Kp H H' → Q (.bl (!decide (t = t' ∧ b = b'))) H') : G.rNeO K (He.ga K "Ratio") (sp_Req K) E (.ref a) (.ref x) H Q :=
  let ⟨dx, e1⟩ := h.at_
  ⟨a, dx, _, _, rfl, e1, k.ty T, nf_Ratio_Ratio T, a, t, b, _, t', b', rfl, h, .of_r k, fun H' z => ⟨_, rfl, q H' z⟩⟩
end
end Lw

local macro_rules | `(tactic| walk_at "gx") => `(tactic| first
  | ((with_reducible refine Lw.Rfifth_R (t := ?z0) (b := ?z1) ?h1 ?h2 ?h3 ?_); (case h1 => walk_at "hp"); (case h2 => assumption); (case h3 => assumption))
  | ((with_reducible refine Lw.need_fifth_R (t := ?z0) (b := ?z1) ?h1 ?h2 ?h3 ?_); (case h1 => walk_at "hp"); (case h2 => first | assumption | omega); (case h3 => first | assumption | omega))
  | ((with_reducible refine Lw.key_of_R (t := ?z0) (b := ?z1) ?h1 ?h2 ?_); (case h1 => walk_at "hp"); (case h2 => walk_at "bdw"))
  | ((with_reducible refine Lw.neg_R (t := ?z0) (b := ?z1) ?h1 ?_); (case h1 => walk_at "hp"); intro _ _ _ _ _)
  | ((with_reducible refine Lw.add_Ri (t := ?z0) (b := ?z1) ?h1 ?h2 ?h3 ?h4 ?_); (case h1 => walk_at "hp"); (case h2 => walk_at "bdw"); (case h3 => walk_at "bdw"); (case h4 => walk_at "bdw"); intro _ _ _ _ _ _ _ _)
  | ((with_reducible refine Lw.rsub_R (t := ?z0) (b := ?z1) ?h1 ?h2 ?h3 ?_); (case h1 => walk_at "hp"); (case h2 => walk_at "bdw"); (case h3 => walk_at "bdw"); intro _ _ _ _ _)
  | ((with_reducible refine Lw.ne_RR (t := ?z0) (b := ?z1) (t' := ?z2) (b' := ?z3) (by assumption) ?h1 ?h2 ?_); (case h1 => walk_at "hp"); (case h2 => walk_at "hp"); intro _ _))

namespace Lw
open PySem PySem.Spec PyProof.Rows L2
section
variable {P : Program} {w : World} {K : PySem.W.Frag} {mg : Str → Option Value} {base : Heap} {H H' : Hp} {Q : VK} {E : XK} {a p x y : Addr} {t b n d i j t' b' n' d' : Int} {v : V}
theorem ok_is_fifth (T : Tx K mg) : G.FnG P w K mg base CX0 2 (a_is_fifth K) (G.fdOf K (a_is_fifth K)) ["value"] (sp_Rfifth K) := by
  refine G.ok_of (F_is_fifth T) sc_is_fifth (fun vs H Q E h => ?_) (fun cdv A outer s H vs Q E hr h => ?_)
  · obtain ⟨a, t, b, rfl, _⟩ := h
    rfl
  · obtain ⟨a, t, b, rfl, ha, h0, h1, q⟩ := h
    refine ⟨_, (pss_one (ps_ret (pe_and (pe_callB G.call_isiG (by rfl) (fr_isinstance T) boot_isinstance (pa_cons (pv 0) (pa_cons (G.pe_cl rfl (gl_Ratio T)) pa_nil))) (pe_one (G.pe_smeth (G.pe_cl rfl (gl_Ratio T)) (rd_Ratio T) (sm_Ratio_is_fifth T) (ok_Ratio_is_fifth T) (hr.mono (by first | decide | omega)) (bi_Ratio_is_fifth T) .nil pass0 (pa_cons (pv 0) pa_nil)))))), ?_⟩
    walk_at "start"
    walk_at "gob"
    exact q
theorem ok_need_fifth (T : Tx K mg) : G.FnG P w K mg base CX0 3 (a_need_fifth K) (G.fdOf K (a_need_fifth K)) ["value"] (sp_need_fifth K) := by
  refine G.ok_of (F_need_fifth T) sc_need_fifth (fun vs H Q E h => ?_) (fun cdv A outer s H vs Q E hr h => ?_)
  · obtain ⟨a, t, b, rfl, _⟩ := h
    rfl
  · obtain ⟨a, t, b, rfl, ha, h0, h1, q⟩ := h
    refine ⟨_, (pss_one (ps_if (pt_not (pt_val (G.pe_callG (ok_is_fifth T) (hr.mono (by first | decide | omega)) rfl (gl_is_fifth T) (F_is_fifth T).kp (bi_is_fifth T) .nil pass0 (pa_cons (pv 0) pa_nil)))) (pss_one ps_never) pss_nil)), ?_⟩
    walk_at "start"
    walk_at "gob"
    exact q
theorem ok_Ratio_rsub (T : Tx K mg) : G.FnG P w K mg base CX0 6 (a_Ratio_rsub K) (G.fdOf K (a_Ratio_rsub K)) ["self", "other"] (sp_Rrsub K) := by
  refine G.ok_of (F_Ratio_rsub T) sc_Ratio_rsub (fun vs H Q E h => ?_) (fun cdv A outer s H vs Q E hr h => ?_)
  · obtain ⟨a, t, b, rfl, _⟩ := h
    rfl
  · obtain ⟨a, t, b, rfl, ha, b1, b2, q⟩ := h
    have hp := ha.pos
    have hc : Int.gcd (-t * 1 + 1 * b) (b * 1) = 1 := by
      rw [Int.mul_one, Int.mul_one, Int.one_mul]
      have e : Int.gcd (-t + b) b = Int.gcd (-t) b := by
        rw [Int.gcd_comm, Int.gcd_comm (-t)]
        simp
      rw [e, Int.neg_gcd]
      exact ha.cop
    refine ⟨_, (pss_one (ps_ret (pe_op (G.bin1_I (op := .Add) (op_Ratio_add T) (oi_Ratio_add T) (ok_Ratio_add T) (hr.mono (by decide)) (bi_Ratio_add T) pass0) (pe_un (G.un_negO (ow_Ratio_neg T) (ok_Ratio_neg T) (hr.mono (by decide)) (bi_Ratio_neg T) pass0) (pv 0)) (pv 1)))), ?_⟩
    walk_at "start"
    walk_at "gob"
    rename_i z H2 n d n2 k2 r2 l2
    obtain ⟨rfl, rfl⟩ := l2.self (by omega) hc
    rw [show -t * 1 + 1 * b = b - t by omega, Int.mul_one] at r2
    exact q _ _ (by walk_at "fr") (by walk_at "kp") r2
end
end Lw

namespace Lw
open PySem PySem.Spec PyProof.Rows L2
/-! ### tones and terms -/
section
variable {P : Program} {w : World} {K : PySem.W.Frag} {mg : Str → Option Value} {base : Heap} {H H' : Hp} {Q : VK} {E : XK} {p q x y a b C : Addr} {o f u g i j z z' : Int} {v : V} {mv mv' : Bool} {R : Prop} {xs : List V}
def mvi (mv : Bool) : Int := if mv then 1 else 0
def ltr (mv : Bool) : Str := if mv then "n" else "f"
/-- a class of terms -/
structure TmC (K : PySem.W.Frag) (C : Addr) (mv : Bool) : Prop where
  cl : Cls K C
  is_ : G.IsiC K C
  na : NoAttr K C "number"
  con : ∃ u, Con K C "MOVES" (.int (mvi mv)) u
  pr : ∃ p, PropOf K C "is_moving" p (a_Term_is_moving K)
  note : Meth K C "note" (a_Term_note K)
  pos : Meth K C "position" (a_Term_position K)
  wit : Meth K C "with_number" (a_Term_with_number K)
  mov : Meth K C "moved" (a_Term_moved K)
  mir : Meth K C "mirrored" (a_Term_mirrored K)
  eq : G.OwnM K C "__eq__" (a_Term_eq K)
  ne : G.NeM K C (a_Term_eq K)
  kTm : PySem.W.kitOne K (.ref C) (.ref (He.ga K "Term")) = some true
  kMo : PySem.W.kitOne K (.ref C) (.ref (He.ga K "Moving")) = some mv
  kNo : PySem.W.kitOne K (.ref C) (.ref (He.ga K "Note")) = some (!mv)
  kTo : PySem.W.kitOne K (.ref C) (.ref (He.ga K "Tone")) = some false
  ni : PySem.W.notFirst K C (.type "int") = true
  ns : PySem.W.notFirst K C (.type "str") = true
  nn : PySem.W.notFirst K C (.type "NoneType") = true
  nt : PySem.W.notFirst K C (.type "tuple") = true
  nl : PySem.W.notFirst K C (.type "list") = true
  nT : PySem.W.notFirst K C (.ref (He.ga K "Tone")) = true
  nN : PySem.W.notFirst K C (.ref (He.ga K "Note")) = true
  nM : PySem.W.notFirst K C (.ref (He.ga K "Moving")) = true
theorem tc_Note (T : Tx K mg) : TmC K (He.ga K "Note") false := ⟨cl_Note T, is_Note T, na_Note_number T, co_Note T, pr_Note_is_moving T, me_Note_note T, me_Note_position T, me_Note_with_number T, me_Note_moved T, me_Note_mirrored T, ow_Note_eq T, ne_Note T,
  ki_Note_Term T, ki_Note_Moving T, ki_Note_Note T, ki_Note_Tone T, nf_Note_int T, nf_Note_str T, nf_Note_NoneType T, nf_Note_tuple T, nf_Note_list T, nf_Note_Tone T, nf_Note_Note T, nf_Note_Moving T⟩
theorem tc_Moving (T : Tx K mg) : TmC K (He.ga K "Moving") true := ⟨cl_Moving T, is_Moving T, na_Moving_number T, co_Moving T, pr_Moving_is_moving T, me_Moving_note T, me_Moving_position T, me_Moving_with_number T, me_Moving_moved T, me_Moving_mirrored T, ow_Moving_eq T, ne_Moving T,
  ki_Moving_Term T, ki_Moving_Moving T, ki_Moving_Note T, ki_Moving_Tone T, nf_Moving_int T, nf_Moving_str T, nf_Moving_NoneType T, nf_Moving_tuple T, nf_Moving_list T, nf_Moving_Tone T, nf_Moving_Note T, nf_Moving_Moving T⟩
def tmA (K : PySem.W.Frag) (mv : Bool) : Addr := if mv then He.ga K "Moving" else He.ga K "Note"
theorem tc_ (T : Tx K mg) : ∀ mv, TmC K (tmA K mv) mv
  | true => tc_Moving T
  | false => tc_Note T
/-- a term: moving or not, its number -/
def IsTm (K : PySem.W.Frag) (H : Hp) (x : Addr) (mv : Bool) (z : Int) : Prop := ∃ dx, H x = some (.ins (tmA K mv) dx [("number", .int z)])
theorem IsTm.kp (k : G.Kp H H') (h : IsTm K H x mv z) : IsTm K H' x mv z := let ⟨dx, e⟩ := h; ⟨dx, k _ _ e⟩
theorem IsTm.md (k : G.Md p H H') (h : IsTm K H x mv z) : IsTm K H' x mv z := let ⟨dx, e⟩ := h; ⟨dx, k.ins e⟩
theorem IsTm.ty (T : Tx K mg) (h : IsTm K H x mv z) : TyX K H (.ref x) (.ref (tmA K mv)) := let ⟨_, e⟩ := h; .base (.ins e (tc_ T mv).cl (tc_ T mv).is_.ha (tc_ T mv).is_.hn (tc_ T mv).is_.ht (tc_ T mv).is_.hm)
theorem TmC.nT2 (h : TmC K C mv) : ∀ mv', PySem.W.notFirst K C (.ref (tmA K mv')) = true
  | true => h.nM
  | false => h.nN
theorem lnum {v : V} : List.lookup ("number" : Str) ([("number", v)] : List (Str × V)) = some v := by simp [List.lookup]
theorem lnone {v : V} {m : Str} (h : (m == ("number" : Str)) = false) : List.lookup m ([("number", v)] : List (Str × V)) = none := by simp [List.lookup, h]
theorem fld_num (T : Tx K mg) (h : IsTm K H x mv z) (q : Q (.int z) H) : G.FldK K "number" (.ref x) H Q := let ⟨_, e⟩ := h; G.st_fldK e (tc_ T mv).cl (tc_ T mv).na lnum q
theorem con_moves (T : Tx K mg) (h : IsTm K H x mv z) (q : Q (.int (mvi mv)) H) : G.ConK K "MOVES" (.ref x) H Q :=
  let ⟨_, e⟩ := h
  let ⟨u, c⟩ := (tc_ T mv).con
  ⟨x, _, _, _, _, u, rfl, e, (tc_ T mv).cl, c, lnone (by decide +kernel), q⟩
theorem prop_mv (T : Tx K mg) (h : IsTm K H x mv z) (q : R) : G.PropK K "is_moving" (a_Term_is_moving K) (.ref x) H R :=
  let ⟨_, e⟩ := h
  let ⟨p, c⟩ := (tc_ T mv).pr
  ⟨x, _, _, _, p, rfl, e, (tc_ T mv).cl, c, q⟩
theorem rc_note (T : Tx K mg) (h : IsTm K H x mv z) (q : R) : G.RecvP K "note" (a_Term_note K) (.ref x) H R := let ⟨_, e⟩ := h; ⟨x, _, _, _, rfl, e, (tc_ T mv).cl, (tc_ T mv).note, lnone (by decide +kernel), q⟩
theorem rc_pos (T : Tx K mg) (h : IsTm K H x mv z) (q : R) : G.RecvP K "position" (a_Term_position K) (.ref x) H R := let ⟨_, e⟩ := h; ⟨x, _, _, _, rfl, e, (tc_ T mv).cl, (tc_ T mv).pos, lnone (by decide +kernel), q⟩
theorem rc_wit (T : Tx K mg) (h : IsTm K H x mv z) (q : R) : G.RecvP K "with_number" (a_Term_with_number K) (.ref x) H R := let ⟨_, e⟩ := h; ⟨x, _, _, _, rfl, e, (tc_ T mv).cl, (tc_ T mv).wit, lnone (by decide +kernel), q⟩
theorem rc_mov (T : Tx K mg) (h : IsTm K H x mv z) (q : R) : G.RecvP K "moved" (a_Term_moved K) (.ref x) H R := let ⟨_, e⟩ := h; ⟨x, _, _, _, rfl, e, (tc_ T mv).cl, (tc_ T mv).mov, lnone (by decide +kernel), q⟩
theorem rc_mir (T : Tx K mg) (h : IsTm K H x mv z) (q : R) : G.RecvP K "mirrored" (a_Term_mirrored K) (.ref x) H R := let ⟨_, e⟩ := h; ⟨x, _, _, _, rfl, e, (tc_ T mv).cl, (tc_ T mv).mir, lnone (by decide +kernel), q⟩
theorem isi_Tm (T : Tx K mg) (h : IsTm K H x mv z) (q : Q (.bl true) H) : G.rIsiG K [.ref x, .ref (He.ga K "Term")] H Q := G.isi_cl (h.ty T) (tc_ T mv).kTm q
theorem isi_Mo (T : Tx K mg) (h : IsTm K H x mv z) (q : Q (.bl mv) H) : G.rIsiG K [.ref x, .ref (He.ga K "Moving")] H Q := G.isi_cl (h.ty T) (tc_ T mv).kMo q
theorem isi_No (T : Tx K mg) (h : IsTm K H x mv z) (q : Q (.bl (!mv)) H) : G.rIsiG K [.ref x, .ref (He.ga K "Note")] H Q := G.isi_cl (h.ty T) (tc_ T mv).kNo q
theorem isi_To (T : Tx K mg) (h : IsTm K H x mv z) (q : Q (.bl false) H) : G.rIsiG K [.ref x, .ref (He.ga K "Tone")] H Q := G.isi_cl (h.ty T) (tc_ T mv).kTo q
theorem isi_oTm {tv : Value} (ty : TyX K H v tv) (k : PySem.W.kitOne K tv (.ref (He.ga K "Term")) = some false) (q : Q (.bl false) H) : G.rIsiG K [v, .ref (He.ga K "Term")] H Q := G.isi_cl ty k q
/-! tones, as far as they are asked for -/
def IsT (K : PySem.W.Frag) (H : Hp) (x : Addr) (o f : Int) : Prop := ∃ dx, H x = some (.ins (He.ga K "Tone") dx [("octaves", .int o), ("fifths", .int f)])
theorem IsT.kp (k : G.Kp H H') (h : IsT K H x o f) : IsT K H' x o f := let ⟨dx, e⟩ := h; ⟨dx, k _ _ e⟩
theorem IsT.md (k : G.Md p H H') (h : IsT K H x o f) : IsT K H' x o f := let ⟨dx, e⟩ := h; ⟨dx, k.ins e⟩
theorem IsT.ty (T : Tx K mg) (h : IsT K H x o f) : TyX K H (.ref x) (.ref (He.ga K "Tone")) := let ⟨_, e⟩ := h; .base (.ins e (cl_Tone T) (is_Tone T).ha (is_Tone T).hn (is_Tone T).ht (is_Tone T).hm)
/-! promises -/
def sp_between : Sp := fun vs H Q _ => ∃ i a b, vs = [.int i, .int a, .int b] ∧ Q (.bl (decide (a ≤ i ∧ i ≤ b))) H
def sp_need_note : Sp := fun vs H Q _ => ∃ i, vs = [.int i] ∧ Q .non H
def sp_Term_init (K : PySem.W.Frag) : Sp := fun vs H Q _ => ∃ x dx mv z, vs = [.ref x, .int z] ∧ H x = some (.ins (tmA K mv) dx []) ∧ -12 ≤ z ∧ z ≤ 12 ∧ ∀ H', G.Mi x H H' → H' x = some (.ins (tmA K mv) dx [("number", .int z)]) → Q .non H'
def sp_mving (K : PySem.W.Frag) : Sp := fun vs H Q _ => ∃ x mv z, vs = [.ref x] ∧ IsTm K H x mv z ∧ Q (.bl mv) H
def sp_note (K : PySem.W.Frag) : Sp := fun vs H Q _ => ∃ x mv z n, vs = [.ref x, .int n] ∧ IsTm K H x mv z ∧ Q (.int (n * mvi mv + z)) H
def sp_position (K : PySem.W.Frag) : Sp := fun vs H Q _ => ∃ x mv z n a t b, vs = [.ref x, .int n, .ref a] ∧ IsTm K H x mv z ∧ IsR K H a t b ∧ 0 < t ∧ t < b ∧ G.Bd 300 n ∧ G.Bd 200 z ∧
  ∀ p H' i j, H p = none → G.Kp H H' → IsR K H' p i j → Low ((n * mvi mv + z) * t % b) b i j → Q (.ref p) H'
def sp_wit (K : PySem.W.Frag) : Sp := fun vs H Q _ => ∃ x mv z i, vs = [.ref x, .int i] ∧ IsTm K H x mv z ∧ -12 ≤ i ∧ i ≤ 12 ∧ ∀ p H', H p = none → G.Kp H H' → IsTm K H' p mv i → Q (.ref p) H'
def sp_moved (K : PySem.W.Frag) : Sp := fun vs H Q _ => ∃ x mv z i, vs = [.ref x, .int i] ∧ IsTm K H x mv z ∧ -12 ≤ z + i ∧ z + i ≤ 12 ∧ ∀ p H', H p = none → G.Kp H H' → IsTm K H' p mv (z + i) → Q (.ref p) H'
def sp_mirrored (K : PySem.W.Frag) : Sp := fun vs H Q _ => ∃ x mv z, vs = [.ref x] ∧ IsTm K H x mv z ∧ -12 ≤ z ∧ z ≤ 12 ∧ ∀ p H', H p = none → G.Kp H H' → IsTm K H' p mv (-z) → Q (.ref p) H'
def sp_Tmeq (K : PySem.W.Frag) : Sp := fun vs H Q _ => ∃ x mv z v, vs = [.ref x, v] ∧ IsTm K H x mv z ∧ ((∃ y mv' z', v = .ref y ∧ IsTm K H y mv' z' ∧ Q (.bl (decide (mv = mv' ∧ z = z'))) H) ∨ ∃ tv, TyX K H v tv ∧ PySem.W.kitOne K tv (.ref (He.ga K "Term")) = some false ∧ Q (.bl false) H)
def sp_Tone_init (K : PySem.W.Frag) : Sp := fun vs H Q _ => ∃ x dx o f, vs = [.ref x, .int o, .int f] ∧ H x = some (.ins (He.ga K "Tone") dx []) ∧ ∀ H', G.Mi x H H' → H' x = some (.ins (He.ga K "Tone") dx [("octaves", .int o), ("fifths", .int f)]) → Q .non H'
theorem pf_T {x y : V} : putF ("fifths" : Str) y (putF ("octaves" : Str) x []) = ([("octaves", x), ("fifths", y)] : List (Str × V)) := by
  have e : ¬ (("octaves" : Str) = "fifths") := by decide +kernel
  show (if ("octaves" : Str) = "fifths" then [(("octaves" : Str), y)] else (("octaves" : Str), x) :: putF "fifths" y []) = ([("octaves", x), ("fifths", y)] : List (Str × V))
  rw [if_neg e]
  rfl
/-! rows -/
theorem between_i (q : Q (.bl (decide (i ≤ j ∧ j ≤ o))) H) : sp_between [.int j, .int i, .int o] H Q E := ⟨j, i, o, rfl, q⟩
theorem need_note_i (q : Q .non H) : sp_need_note [.int i] H Q E := ⟨i, rfl, q⟩
theorem mving_T (h : IsTm K H x mv z) (q : Q (.bl mv) H) : sp_mving K [.ref x] H Q E := ⟨x, mv, z, rfl, h, q⟩
theorem note_T (h : IsTm K H x mv z) (q : Q (.int (i * mvi mv + z)) H) : sp_note K [.ref x, .int i] H Q E := ⟨x, mv, z, i, rfl, h, q⟩
theorem pos_T {n t b : Int} (h : IsTm K H x mv z) (h2 : IsR K H a t b) (h3 : 0 < t) (h4 : t < b) (h5 : G.Bd 300 n) (h6 : G.Bd 200 z) (q : ∀ p H' i j, H p = none → G.Kp H H' → IsR K H' p i j → Low ((n * mvi mv + z) * t % b) b i j → Q (.ref p) H') : sp_position K [.ref x, .int n, .ref a] H Q E :=
  ⟨x, mv, z, n, a, t, b, rfl, h, h2, h3, h4, h5, h6, q⟩
theorem wit_T (h : IsTm K H x mv z) (h1 : -12 ≤ i) (h2 : i ≤ 12) (q : ∀ p H', H p = none → G.Kp H H' → IsTm K H' p mv i → Q (.ref p) H') : sp_wit K [.ref x, .int i] H Q E := ⟨x, mv, z, i, rfl, h, h1, h2, q⟩
theorem moved_T (h : IsTm K H x mv z) (h1 : -12 ≤ z + i) (h2 : z + i ≤ 12) (q : ∀ p H', H p = none → G.Kp H H' → IsTm K H' p mv (z + i) → Q (.ref p) H') : sp_moved K [.ref x, .int i] H Q E := ⟨x, mv, z, i, rfl, h, h1, h2, q⟩
theorem mir_T (h : IsTm K H x mv z) (h1 : -12 ≤ z) (h2 : z ≤ 12) (q : ∀ p H', H p = none → G.Kp H H' → IsTm K H' p mv (-z) → Q (.ref p) H') : sp_mirrored K [.ref x] H Q E := ⟨x, mv, z, rfl, h, h1, h2, q⟩
theorem mk_Mo (h1 : -12 ≤ z) (h2 : z ≤ 12) (q : ∀ p H', H p = none → G.Kp H H' → IsTm K H' p true z → Q (.ref p) H') : G.MakeK (He.ga K "Moving") (sp_Term_init K) [] E [.int z] H Q :=
  G.st_mkK fun x dx H1 hn k hx => ⟨x, dx, true, z, rfl, hx, h1, h2, fun H' j e => ⟨rfl, q x H' hn (G.Kp.init hn k j) ⟨dx, e⟩⟩⟩
theorem mk_No (h1 : -12 ≤ z) (h2 : z ≤ 12) (q : ∀ p H', H p = none → G.Kp H H' → IsTm K H' p false z → Q (.ref p) H') : G.MakeK (He.ga K "Note") (sp_Term_init K) [] E [.int z] H Q :=
  G.st_mkK fun x dx H1 hn k hx => ⟨x, dx, false, z, rfl, hx, h1, h2, fun H' j e => ⟨rfl, q x H' hn (G.Kp.init hn k j) ⟨dx, e⟩⟩⟩
theorem mk_T1 (q : ∀ x H', H x = none → G.Kp H H' → IsT K H' x o 0 → Q (.ref x) H') : G.MakeK (He.ga K "Tone") (sp_Tone_init K) [.int 0] E [.int o] H Q :=
  G.st_mkK fun x dx H1 hn k hx => ⟨x, dx, o, 0, rfl, hx, fun H' j e => ⟨rfl, q x H' hn (G.Kp.init hn k j) ⟨dx, e⟩⟩⟩
theorem eq_mm (T : Tx K mg) (h : IsTm K H x mv z) (k : IsTm K H y mv' z') (q : Q (.bl (decide (mv = mv' ∧ z = z'))) H) : G.rCmpP K (cmpInfo .Eq).2.1 (a_Term_eq K) (sp_Tmeq K) E (.ref x) (.ref y) H Q :=
  let ⟨dx, e⟩ := h
  ⟨x, _, dx, _, _, rfl, e, (tc_ T mv).eq, k.ty T, (tc_ T mv).nT2 mv', x, mv, z, _, rfl, h, .inl ⟨y, mv', z', rfl, k, q⟩⟩
theorem ne_mm (T : Tx K mg) (h : IsTm K H x mv z) (k : IsTm K H y mv' z') (q : Q (.bl (!decide (mv = mv' ∧ z = z'))) H) : G.rNeP K (a_Term_eq K) (sp_Tmeq K) E (.ref x) (.ref y) H Q :=
  let ⟨dx, e⟩ := h
  ⟨x, _, dx, _, _, rfl, e, (tc_ T mv).ne, k.ty T, (tc_ T mv).nT2 mv', x, mv, z, _, rfl, h, .inl ⟨y, mv', z', rfl, k, _, rfl, q⟩⟩
/-- what is no term -/
def Odd (K : PySem.W.Frag) (H : Hp) (v : V) : Prop := v = .non ∨ (∃ i, v = .int i) ∨ (∃ s, v = .str s) ∨ (∃ p xs, v = .ref p ∧ H p = some (.tup xs)) ∨ (∃ p xs, v = .ref p ∧ H p = some (.lst xs)) ∨ ∃ p o f, v = .ref p ∧ IsT K H p o f
theorem Odd.kp (k : G.Kp H H') (h : Odd K H v) : Odd K H' v := by
  rcases h with h | h | h | ⟨p, xs, e, h⟩ | ⟨p, xs, e, h⟩ | ⟨p, o, f, e, h⟩
  · exact .inl h
  · exact .inr (.inl h)
  · exact .inr (.inr (.inl h))
  · exact .inr (.inr (.inr (.inl ⟨p, xs, e, k _ _ h⟩)))
  · exact .inr (.inr (.inr (.inr (.inl ⟨p, xs, e, k _ _ h⟩))))
  · exact .inr (.inr (.inr (.inr (.inr ⟨p, o, f, e, h.kp k⟩))))
theorem Odd.ty (T : Tx K mg) (h : Odd K H v) : ∃ tv, TyX K H v tv ∧ PySem.W.kitOne K tv (.ref (He.ga K "Term")) = some false ∧ ∀ mv, PySem.W.notFirst K (tmA K mv) tv = true := by
  rcases h with rfl | ⟨i, rfl⟩ | ⟨s, rfl⟩ | ⟨p, xs, rfl, h⟩ | ⟨p, xs, rfl, h⟩ | ⟨p, o, f, rfl, h⟩
  · exact ⟨_, .base .non, ki_NoneType_Term T, fun mv => (tc_ T mv).nn⟩
  · exact ⟨_, .base (.int _), ki_int_Term T, fun mv => (tc_ T mv).ni⟩
  · exact ⟨_, .base (.str _), ki_str_Term T, fun mv => (tc_ T mv).ns⟩
  · exact ⟨_, .base (.tup h), ki_tuple_Term T, fun mv => (tc_ T mv).nt⟩
  · exact ⟨_, .base (.lst h), ki_list_Term T, fun mv => (tc_ T mv).nl⟩
  · exact ⟨_, h.ty T, ki_Tone_Term T, fun mv => (tc_ T mv).nT⟩
theorem eq_mo (T : Tx K mg) (h : IsTm K H x mv z) (k : Odd K H v) (q : Q (.bl false) H) : G.rCmpP K (cmpInfo .Eq).2.1 (a_Term_eq K) (sp_Tmeq K) E (.ref x) v H Q :=
  let ⟨dx, e⟩ := h
  let ⟨tv, ty, kt, nf⟩ := k.ty T
  ⟨x, _, dx, _, tv, rfl, e, (tc_ T mv).eq, ty, nf mv, x, mv, z, v, rfl, h, .inr ⟨tv, ty, kt, q⟩⟩
theorem ne_mo (T : Tx K mg) (h : IsTm K H x mv z) (k : Odd K H v) (q : Q (.bl true) H) : G.rNeP K (a_Term_eq K) (sp_Tmeq K) E (.ref x) v H Q :=
  let ⟨dx, e⟩ := h
  let ⟨tv, ty, kt, nf⟩ := k.ty T
  ⟨x, _, dx, _, tv, rfl, e, (tc_ T mv).ne, ty, nf mv, x, mv, z, v, rfl, h, .inr ⟨tv, ty, kt, _, rfl, q⟩⟩
end
end Lw

local macro_rules | `(tactic| walk_at "hp") => `(tactic| first
  | (refine Lw.IsTm.kp (by assumption) ?_; walk_at "hp")
  | (refine Lw.IsTm.md (by assumption) ?_; walk_at "hp")
  | (refine Lw.IsT.kp (by assumption) ?_; walk_at "hp")
  | (refine Lw.IsT.md (by assumption) ?_; walk_at "hp"))
local macro_rules | `(tactic| walk_at "g") => `(tactic| first
  | with_reducible refine G.st_methP ?_
  | with_reducible refine G.st_propP ?_
  | with_reducible refine G.st_con ?_
  | with_reducible refine G.repr_i (by walk_at "bd") (by first | decide +kernel | omega) ?_
  | ((with_reducible refine' G.repr_lib (i := ?z0) (b := ?z1) ?h ?b1 ?l1 ?_); (case h => walk_at "hp"); (case b1 => walk_at "bd"); (case l1 => first | decide +kernel | omega))
  | ((with_reducible refine G.eq_l4b (i0 := ?z0) (i1 := ?z1) (i2 := ?z2) (i3 := ?z3) (j0 := ?z4) (j1 := ?z5) (j2 := ?z6) (j3 := ?z7) ?h1 ?h2 ?_); (case h1 => walk_at "hp"); (case h2 => walk_at "hp"))
  | ((with_reducible refine G.ne_l0 ?h1 ?h2 ?_); (case h1 => walk_at "hp"); (case h2 => walk_at "hp")))
local macro_rules | `(tactic| walk_at "gx") => `(tactic| first
  | ((with_reducible refine Lw.fld_num (mv := ?z0) (z := ?z1) (by assumption) ?h ?_); (case h => walk_at "hp"))
  | ((with_reducible refine Lw.con_moves (mv := ?z0) (z := ?z1) (by assumption) ?h ?_); (case h => walk_at "hp"))
  | ((with_reducible refine Lw.prop_mv (mv := ?z0) (z := ?z1) (by assumption) ?h ?_); (case h => walk_at "hp"))
  | ((with_reducible refine Lw.rc_note (mv := ?z0) (z := ?z1) (by assumption) ?h ?_); (case h => walk_at "hp"))
  | ((with_reducible refine Lw.rc_pos (mv := ?z0) (z := ?z1) (by assumption) ?h ?_); (case h => walk_at "hp"))
  | ((with_reducible refine Lw.rc_wit (mv := ?z0) (z := ?z1) (by assumption) ?h ?_); (case h => walk_at "hp"))
  | ((with_reducible refine Lw.rc_mov (mv := ?z0) (z := ?z1) (by assumption) ?h ?_); (case h => walk_at "hp"))
  | ((with_reducible refine Lw.rc_mir (mv := ?z0) (z := ?z1) (by assumption) ?h ?_); (case h => walk_at "hp"))
  | ((with_reducible refine Lw.isi_Tm (mv := ?z0) (z := ?z1) (by assumption) ?h ?_); (case h => walk_at "hp"))
  | ((with_reducible refine Lw.isi_Mo (mv := ?z0) (z := ?z1) (by assumption) ?h ?_); (case h => walk_at "hp"))
  | ((with_reducible refine Lw.isi_No (mv := ?z0) (z := ?z1) (by assumption) ?h ?_); (case h => walk_at "hp"))
  | ((with_reducible refine Lw.isi_To (mv := ?z0) (z := ?z1) (by assumption) ?h ?_); (case h => walk_at "hp"))
  | with_reducible refine Lw.isi_oTm (by assumption) (by assumption) ?_
  | with_reducible refine Lw.between_i ?_
  | with_reducible refine Lw.need_note_i ?_
  | ((with_reducible refine Lw.mving_T (mv := ?z0) (z := ?z1) ?h ?_); (case h => walk_at "hp"))
  | ((with_reducible refine Lw.note_T (mv := ?z0) (z := ?z1) ?h ?_); (case h => walk_at "hp"))
  | ((with_reducible refine Lw.pos_T (mv := ?z0) (z := ?z1) (t := ?z2) (b := ?z3) ?h1 ?h2 ?h3 ?h4 ?h5 ?h6 ?_); (case h1 => walk_at "hp"); (case h2 => walk_at "hp"); (case h3 => first | assumption | omega); (case h4 => first | assumption | omega); (case h5 => walk_at "bdw"); (case h6 => walk_at "bdw"); intro _ _ _ _ _ _ _ _)
  | ((with_reducible refine Lw.wit_T (mv := ?z0) (z := ?z1) ?h1 ?h2 ?h3 ?_); (case h1 => walk_at "hp"); (case h2 => omega); (case h3 => omega); intro _ _ _ _ _)
  | ((with_reducible refine Lw.moved_T (mv := ?z0) (z := ?z1) ?h1 ?h2 ?h3 ?_); (case h1 => walk_at "hp"); (case h2 => omega); (case h3 => omega); intro _ _ _ _ _)
  | ((with_reducible refine Lw.mir_T (mv := ?z0) (z := ?z1) ?h1 ?h2 ?h3 ?_); (case h1 => walk_at "hp"); (case h2 => omega); (case h3 => omega); intro _ _ _ _ _)
  | ((with_reducible refine Lw.mk_Mo ?h2 ?h3 ?_); (case h2 => omega); (case h3 => omega); intro _ _ _ _ _)
  | ((with_reducible refine Lw.mk_No ?h2 ?h3 ?_); (case h2 => omega); (case h3 => omega); intro _ _ _ _ _)
  | ((with_reducible refine Lw.mk_T1 ?_); intro _ _ _ _ _)
  | ((with_reducible refine Lw.eq_mm (mv := ?z0) (z := ?z1) (mv' := ?z2) (z' := ?z3) (by assumption) ?h1 ?h2 ?_); (case h1 => walk_at "hp"); (case h2 => walk_at "hp"))
  | ((with_reducible refine Lw.ne_mm (mv := ?z0) (z := ?z1) (mv' := ?z2) (z' := ?z3) (by assumption) ?h1 ?h2 ?_); (case h1 => walk_at "hp"); (case h2 => walk_at "hp"))
  | ((with_reducible refine Lw.eq_mo (mv := ?z0) (z := ?z1) (by assumption) ?h1 ?h2 ?_); (case h1 => walk_at "hp"); (case h2 => walk_at "hp"))
  | ((with_reducible refine Lw.ne_mo (mv := ?z0) (z := ?z1) (by assumption) ?h1 ?h2 ?_); (case h1 => walk_at "hp"); (case h2 => walk_at "hp")))
local macro_rules | `(tactic| walk_at "hp") => `(tactic| (refine Lw.Odd.kp (by assumption) ?_; walk_at "hp"))

namespace Lw
open PySem PySem.Spec PyProof.Rows L2
section
variable {P : Program} {w : World} {K : PySem.W.Frag} {mg : Str → Option Value} {base : Heap}
theorem bd_mvi (mv : Bool) : G.Bd 1 (mvi mv) := by cases mv <;> (show Int.natAbs _ < 2 ^ 1; decide)
theorem ok_is_between (T : Tx K mg) : G.FnG P w K mg base CX0 2 (a_is_between K) (G.fdOf K (a_is_between K)) ["value", "least", "most"] sp_between := by
  refine G.ok_of (F_is_between T) sc_is_between (fun vs H Q E h => ?_) (fun cdv A outer s H vs Q E hr h => ?_)
  · obtain ⟨i, a, b, rfl, _⟩ := h
    rfl
  · obtain ⟨i, a, b, rfl, q⟩ := h
    refine ⟨_, (pss_one (ps_ret (pe_and (G.pe_callG (ok_is_integer T) (hr.mono (by first | decide | omega)) rfl (gl_is_integer T) (F_is_integer T).kp (bi_is_integer T) .nil pass0 (pa_cons (pv 0) pa_nil)) (pe_one (pe_chain G.op_leG G.op_leG (pv 1) (pv 0) (pv 2)))))), ?_⟩
    walk_at "start"
    walk_at "gob"
    · rename_i hc
      rw [show decide (a ≤ i ∧ i ≤ b) = decide (i ≤ b) by simp [hc]] at q
      exact q
    · rename_i hc
      rw [show decide (a ≤ i ∧ i ≤ b) = false by simp [hc]] at q
      exact q
theorem ok_need_note (T : Tx K mg) : G.FnG P w K mg base CX0 2 (a_need_note K) (G.fdOf K (a_need_note K)) ["n"] sp_need_note := by
  refine G.ok_of (F_need_note T) sc_need_note (fun vs H Q E h => ?_) (fun cdv A outer s H vs Q E hr h => ?_)
  · obtain ⟨i, rfl, _⟩ := h
    rfl
  · obtain ⟨i, rfl, q⟩ := h
    refine ⟨_, (pss_one (ps_if (pt_not (pt_val (G.pe_callG (ok_is_integer T) (hr.mono (by first | decide | omega)) rfl (gl_is_integer T) (F_is_integer T).kp (bi_is_integer T) .nil pass0 (pa_cons (pv 0) pa_nil)))) (pss_one ps_never) pss_nil)), ?_⟩
    walk_at "start"
    walk_at "gob"
    exact q
theorem ok_Tone_init (T : Tx K mg) : G.FnG P w K mg base CX0 2 (a_Tone_init K) (G.fdOf K (a_Tone_init K)) ["self", "octaves", "fifths"] (sp_Tone_init K) := by
  refine G.ok_of (F_Tone_init T) sc_Tone_init (fun vs H Q E h => ?_) (fun cdv A outer s H vs Q E hr h => ?_)
  · obtain ⟨x, dx, o, f, rfl, _⟩ := h
    rfl
  · obtain ⟨x, dx, o, f, rfl, hx, q⟩ := h
    refine ⟨_, (pss_cons (ps_if (pt_not (pt_val (G.pe_callG (ok_is_integer T) (hr.mono (by first | decide | omega)) rfl (gl_is_integer T) (F_is_integer T).kp (bi_is_integer T) .nil pass0 (pa_cons (pv 1) pa_nil)))) (pss_one ps_never) pss_nil)
    (pss_cons (ps_if (pt_not (pt_val (G.pe_callG (ok_is_integer T) (hr.mono (by first | decide | omega)) rfl (gl_is_integer T) (F_is_integer T).kp (bi_is_integer T) .nil pass0 (pa_cons (pv 2) pa_nil)))) (pss_one ps_never) pss_nil)
    (pss_cons (ps_fld (pv 0) (pv 1) rfl)
    (pss_one (ps_fld (pv 0) (pv 2) rfl))))), ?_⟩
    walk_at "start"
    walk_at "gob"
    refine G.st_setfldM hx (cl_Tone T) (na_Tone_octaves T) (by decide) fun H6 m6 e6 => ?_
    walk_at "gob"
    refine G.st_setfldM e6 (cl_Tone T) (na_Tone_fifths T) (by show 1 < 1000; decide) fun H8 m8 e8 => ?_
    walk_at "gob"
    exact q H8 (m6.trans m8) (e8.trans (congrArg (fun z => some (HO.ins (He.ga K "Tone") dx z)) pf_T))
theorem ok_Term_init (T : Tx K mg) : G.FnG P w K mg base CX0 4 (a_Term_init K) (G.fdOf K (a_Term_init K)) ["self", "number"] (sp_Term_init K) := by
  refine G.ok_of (F_Term_init T) sc_Term_init (fun vs H Q E h => ?_) (fun cdv A outer s H vs Q E hr h => ?_)
  · obtain ⟨x, dx, mv, z, rfl, _⟩ := h
    rfl
  · obtain ⟨x, dx, mv, z, rfl, hx, h1, h2, q⟩ := h
    refine ⟨_, (pss_cons (ps_if (pt_not (pt_val (G.pe_callG (ok_is_between T) (hr.mono (by first | decide | omega)) rfl (gl_is_between T) (F_is_between T).kp (bi_is_between T) .nil pass0 (pa_cons (pv 1) (pa_cons (pe_un G.un_negG (Exists.elim (gi_MOST_NUMBER T) fun _ hM => pe_glob (v := .int 12) rfl hM ⟨_, rfl⟩)) (pa_cons (Exists.elim (gi_MOST_NUMBER T) fun _ hM => pe_glob (v := .int 12) rfl hM ⟨_, rfl⟩) pa_nil)))))) (pss_one ps_never) pss_nil)
    (pss_one (ps_fld (pv 0) (pv 1) rfl))), ?_⟩
    walk_at "start"
    walk_at "gob"
    refine G.st_setfldM hx (tc_ T mv).cl (tc_ T mv).na (by decide) fun H6 m6 e6 => ?_
    walk_at "gob"
    exact q H6 m6 e6
theorem ok_Term_is_moving (T : Tx K mg) : G.FnG P w K mg base CX0 1 (a_Term_is_moving K) (G.fdOf K (a_Term_is_moving K)) ["self"] (sp_mving K) := by
  refine G.ok_of (F_Term_is_moving T) sc_Term_is_moving (fun vs H Q E h => ?_) (fun cdv A outer s H vs Q E hr h => ?_)
  · obtain ⟨x, mv, z, rfl, _⟩ := h
    rfl
  · obtain ⟨x, mv, z, rfl, h1, q⟩ := h
    rw [show mv = decide (mvi mv = 1) by cases mv <;> rfl] at q
    refine ⟨_, (pss_one (ps_ret (pe_cmpR (G.op_eqG hr.units) (pe_con (pv 0) rfl) pe_int (nomark _)))), ?_⟩
    walk_at "start"
    walk_at "gob"
    exact q
theorem ok_Term_note (T : Tx K mg) : G.FnG P w K mg base CX0 3 (a_Term_note K) (G.fdOf K (a_Term_note K)) ["self", "n"] (sp_note K) := by
  refine G.ok_of (F_Term_note T) sc_Term_note (fun vs H Q E h => ?_) (fun cdv A outer s H vs Q E hr h => ?_)
  · obtain ⟨x, mv, z, n, rfl, _⟩ := h
    rfl
  · obtain ⟨x, mv, z, n, rfl, h1, q⟩ := h
    have h2 : -(2 ^ 64) < mvi mv ∧ mvi mv < 2 ^ 64 := by cases mv <;> decide
    refine ⟨_, (pss_cons (ps_expr (G.pe_callG (ok_need_note T) (hr.mono (by first | decide | omega)) rfl (gl_need_note T) (F_need_note T).kp (bi_need_note T) .nil pass0 (pa_cons (pv 1) pa_nil)))
    (pss_one (ps_ret (pe_op G.op_addG (pe_op G.op_mulG (pv 1) (pe_con (pv 0) rfl)) (pe_fld (pv 0) rfl))))), ?_⟩
    walk_at "start"
    walk_at "gob"
    exact q
theorem ok_Term_position (T : Tx K mg) : G.FnG P w K mg base CX0 5 (a_Term_position K) (G.fdOf K (a_Term_position K)) ["self", "n", "fifth"] (sp_position K) := by
  refine G.ok_of (F_Term_position T) sc_Term_position (fun vs H Q E h => ?_) (fun cdv A outer s H vs Q E hr h => ?_)
  · obtain ⟨x, mv, z, n, a, t, b, rfl, _⟩ := h
    rfl
  · obtain ⟨x, mv, z, n, a, t, b, rfl, h1, h2, h3, h4, h5, h6, q⟩ := h
    have bm := bd_mvi mv
    have hb := h2.bb
    have hk : G.Bd 4000 ((n * mvi mv + z) * t % b) := G.Bd.of_le hb (by
      have := Int.emod_nonneg ((n * mvi mv + z) * t) (show b ≠ 0 by omega)
      have := Int.emod_lt_of_pos ((n * mvi mv + z) * t) (show 0 < b by omega)
      omega)
    refine ⟨_, (pss_cons (ps_set (i := 3) sc_Term_position.nd rfl (Or.inl rfl) (G.pe_methP (pv 0) (ok_Term_note T) (hr.mono (by first | decide | omega)) (bi_Term_note T) .nil pass0 (pa_cons (pv 1) pa_nil)))
    (pss_cons (ps_expr (G.pe_callG (ok_need_fifth T) (hr.mono (by first | decide | omega)) rfl (gl_need_fifth T) (F_need_fifth T).kp (bi_need_fifth T) .nil pass0 (pa_cons (pv 2) pa_nil)))
    (pss_one (ps_ret (G.pe_makeG (mk_Ratio T) (ok_Ratio_init T) (hr.mono (by first | decide | omega)) rfl (gl_Ratio T) (bi_Ratio_init T) .nil pass0 (pa_cons (G.pe_callG (ok_key_of T) (hr.mono (by first | decide | omega)) rfl (gl_key_of T) (F_key_of T).kp (bi_key_of T) .nil pass0 (pa_cons (pv 3) (pa_cons (pv 2) pa_nil))) (pa_cons (pe_fld (pv 2) rfl) pa_nil))))))), ?_⟩
    walk_at "start"
    walk_at "gob"
    exact q _ _ _ _ (by walk_at "fr") (by walk_at "kp") (by assumption) (by assumption)
theorem ok_Term_with_number (T : Tx K mg) : G.FnG P w K mg base CX0 6 (a_Term_with_number K) (G.fdOf K (a_Term_with_number K)) ["self", "number"] (sp_wit K) := by
  refine G.ok_of (F_Term_with_number T) sc_Term_with_number (fun vs H Q E h => ?_) (fun cdv A outer s H vs Q E hr h => ?_)
  · obtain ⟨x, mv, z, i, rfl, _⟩ := h
    rfl
  · obtain ⟨x, mv, z, i, rfl, h1, h2, h3, q⟩ := h
    refine ⟨_, (pss_one (ps_ret (pe_ifExp (pt_val (G.pe_propP (pv 0) (ok_Term_is_moving T) (hr.mono (by first | decide | omega)) (bi_Term_is_moving T) pass0 rfl)) (G.pe_makeG (mk_Moving T) (ok_Term_init T) (hr.mono (by first | decide | omega)) rfl (gl_Moving T) (bi_Term_init T) .nil pass0 (pa_cons (pv 1) pa_nil)) (G.pe_makeG (mk_Note T) (ok_Term_init T) (hr.mono (by first | decide | omega)) rfl (gl_Note T) (bi_Term_init T) .nil pass0 (pa_cons (pv 1) pa_nil))))), ?_⟩
    walk_at "start"
    cases mv <;> walk_at "gob" <;> exact q _ _ (by walk_at "fr") (by walk_at "kp") (by assumption)
theorem ok_Term_moved (T : Tx K mg) : G.FnG P w K mg base CX0 7 (a_Term_moved K) (G.fdOf K (a_Term_moved K)) ["self", "number"] (sp_moved K) := by
  refine G.ok_of (F_Term_moved T) sc_Term_moved (fun vs H Q E h => ?_) (fun cdv A outer s H vs Q E hr h => ?_)
  · obtain ⟨x, mv, z, i, rfl, _⟩ := h
    rfl
  · obtain ⟨x, mv, z, i, rfl, h1, h2, h3, q⟩ := h
    refine ⟨_, (pss_cons (ps_if (pt_not (pt_val (G.pe_callG (ok_is_integer T) (hr.mono (by first | decide | omega)) rfl (gl_is_integer T) (F_is_integer T).kp (bi_is_integer T) .nil pass0 (pa_cons (pv 1) pa_nil)))) (pss_one ps_never) pss_nil)
    (pss_one (ps_ret (G.pe_methP (pv 0) (ok_Term_with_number T) (hr.mono (by first | decide | omega)) (bi_Term_with_number T) .nil pass0 (pa_cons (pe_op G.op_addG (pe_fld (pv 0) rfl) (pv 1)) pa_nil))))), ?_⟩
    walk_at "start"
    walk_at "gob"
    exact q _ _ (by walk_at "fr") (by walk_at "kp") (by assumption)
theorem ok_Term_mirrored (T : Tx K mg) : G.FnG P w K mg base CX0 7 (a_Term_mirrored K) (G.fdOf K (a_Term_mirrored K)) ["self"] (sp_mirrored K) := by
  refine G.ok_of (F_Term_mirrored T) sc_Term_mirrored (fun vs H Q E h => ?_) (fun cdv A outer s H vs Q E hr h => ?_)
  · obtain ⟨x, mv, z, rfl, _⟩ := h
    rfl
  · obtain ⟨x, mv, z, rfl, h1, h2, h3, q⟩ := h
    refine ⟨_, (pss_one (ps_ret (G.pe_methP (pv 0) (ok_Term_with_number T) (hr.mono (by first | decide | omega)) (bi_Term_with_number T) .nil pass0 (pa_cons (pe_un G.un_negG (pe_fld (pv 0) rfl)) pa_nil)))), ?_⟩
    walk_at "start"
    walk_at "gob"
    exact q _ _ (by walk_at "fr") (by walk_at "kp") (by assumption)
theorem ok_Term_eq (T : Tx K mg) : G.FnG P w K mg base CX0 3 (a_Term_eq K) (G.fdOf K (a_Term_eq K)) ["self", "other"] (sp_Tmeq K) := by
  refine G.ok_of (F_Term_eq T) sc_Term_eq (fun vs H Q E h => ?_) (fun cdv A outer s H vs Q E hr h => ?_)
  · obtain ⟨x, mv, z, v, rfl, _⟩ := h
    rfl
  · obtain ⟨x, mv, z, v, rfl, h1, h⟩ := h
    rcases h with ⟨y, mv', z', rfl, h2, q⟩ | ⟨tv, ty, kt, q⟩
    · refine ⟨_, (pss_one (ps_ret (pe_and (pe_callB G.call_isiG (by rfl) (fr_isinstance T) boot_isinstance (pa_cons (pv 1) (pa_cons (G.pe_cl rfl (gl_Term T)) pa_nil))) (pe_and (pe_cmpR (G.op_eqG hr.units) (G.pe_propP (pv 0) (ok_Term_is_moving T) (hr.mono (by first | decide | omega)) (bi_Term_is_moving T) pass0 rfl) (G.pe_propP (pv 1) (ok_Term_is_moving T) (hr.mono (by first | decide | omega)) (bi_Term_is_moving T) pass0 rfl) (nomark _)) (pe_one (pe_cmpR (G.op_eqG hr.units) (pe_fld (pv 0) rfl) (pe_fld (pv 1) rfl) (nomark _))))))), ?_⟩
      walk_at "start"
      walk_at "gob"
      · rename_i hc
        rw [show decide (mv = mv' ∧ z = z') = decide (z = z') by simp [hc]] at q
        exact q
      · rename_i hc
        rw [show decide (mv = mv' ∧ z = z') = false by simp [hc]] at q
        simpa [hc] using q
    · refine ⟨_, (pss_one (ps_ret (pe_and (pe_callB G.call_isiG (by rfl) (fr_isinstance T) boot_isinstance (pa_cons (pv 1) (pa_cons (G.pe_cl rfl (gl_Term T)) pa_nil))) (pe_and (pe_cmpR (G.op_eqG hr.units) (G.pe_propP (pv 0) (ok_Term_is_moving T) (hr.mono (by first | decide | omega)) (bi_Term_is_moving T) pass0 rfl) (G.pe_propP (pv 1) (ok_Term_is_moving T) (hr.mono (by first | decide | omega)) (bi_Term_is_moving T) pass0 rfl) (nomark _)) (pe_one (pe_cmpR (G.op_eqG hr.units) (pe_fld (pv 0) rfl) (pe_fld (pv 1) rfl) (nomark _))))))), ?_⟩
      walk_at "start"
      walk_at "gob"
      exact q
end
end Lw

namespace Lw
open PySem PySem.Spec PyProof.Rows L2
/-! ### values of fractions -/
section
variable {t b n d n' d' c e i j k : Int}
/-- the value of n / d is c / b -/
def Val (n d c b : Int) : Prop := n * b = c * d
theorem Low.val (h : Low t b n d) : Val n d t b := by
  obtain ⟨_, _, g, e1, e2⟩ := h
  show n * b = t * d
  rw [e1, e2, ← Int.mul_assoc, Int.mul_assoc n g d, Int.mul_comm g d, ← Int.mul_assoc]
theorem Low.bn {m : Nat} (h : Low t b n d) (hb : b ≠ 0) (k : G.Bd m t) : G.Bd m n := k.of_le (h.le hb).1
theorem Low.bd {m : Nat} (h : Low t b n d) (hb : b ≠ 0) (k : G.Bd m b) : G.Bd m d := k.of_le (h.le hb).2
/-- two fractions in lowest terms of one value -/
theorem val_uniq (hb : b ≠ 0) (p1 : 0 < d) (c1 : Int.gcd n d = 1) (p2 : 0 < d') (c2 : Int.gcd n' d' = 1) (h : Val n d c b) (h' : Val n' d' c b) : n = n' ∧ d = d' := by
  have cross : n * d' = n' * d := by
    have q : (n * d') * b = (n' * d) * b := by
      calc (n * d') * b = (n * b) * d' := by simp only [Int.mul_assoc, Int.mul_left_comm, Int.mul_comm]
        _ = (c * d) * d' := by rw [show n * b = c * d from h]
        _ = (c * d') * d := by simp only [Int.mul_assoc, Int.mul_left_comm, Int.mul_comm]
        _ = (n' * b) * d := by rw [show n' * b = c * d' from h']
        _ = (n' * d) * b := by simp only [Int.mul_assoc, Int.mul_left_comm, Int.mul_comm]
    exact Int.eq_of_mul_eq_mul_right hb q
  have d1 : d ∣ d' := dvd_cop c1 ⟨n', by rw [cross, Int.mul_comm]⟩
  have d2 : d' ∣ d := dvd_cop c2 ⟨n, by rw [← cross, Int.mul_comm]⟩
  have ed : d = d' := Int.le_antisymm (Int.le_of_dvd p2 d1) (Int.le_of_dvd p1 d2)
  subst ed
  exact ⟨Int.eq_of_mul_eq_mul_right (by omega) cross, rfl⟩
/-- a product with a whole number, a whole number added -/
theorem val_pitch {f o n1 d1 n2 d2 : Int} (p : d1 ≠ 0) (h1 : Low (t * f) (b * 1) n1 d1) (h2 : Low (n1 * 1 + o * d1) (d1 * 1) n2 d2) : Val n2 d2 (f * t + o * b) b := by
  have e1 : n1 * (b * 1) = (t * f) * d1 := h1.val
  have e2 : n2 * (d1 * 1) = (n1 * 1 + o * d1) * d2 := h2.val
  rw [Int.mul_one] at e1 e2
  rw [Int.mul_one] at e2
  show n2 * b = (f * t + o * b) * d2
  have q : (n2 * b) * d1 = ((f * t + o * b) * d2) * d1 := by
    calc (n2 * b) * d1 = (n2 * d1) * b := by simp only [Int.mul_assoc, Int.mul_left_comm, Int.mul_comm]
      _ = ((n1 + o * d1) * d2) * b := by rw [e2]
      _ = (n1 * b) * d2 + (o * d1) * d2 * b := by simp only [Int.add_mul, Int.mul_add, Int.mul_assoc, Int.mul_left_comm, Int.mul_comm]
      _ = (t * f * d1) * d2 + (o * d1) * d2 * b := by rw [e1]
      _ = ((f * t + o * b) * d2) * d1 := by simp only [Int.add_mul, Int.mul_add, Int.mul_assoc, Int.mul_left_comm, Int.mul_comm]
  exact Int.eq_of_mul_eq_mul_right p q
/-- a sum of two values over one bottom -/
theorem val_sum {i j n2 d2 e : Int} (pj : j ≠ 0) (p2 : d2 ≠ 0) (h1 : Val i j c b) (h2 : Val n2 d2 e b) (h3 : Low (i * d2 + n2 * j) (j * d2) n d) : Val n d (c + e) b := by
  have e1 : i * b = c * j := h1
  have e2 : n2 * b = e * d2 := h2
  have e3 : n * (j * d2) = (i * d2 + n2 * j) * d := h3.val
  show n * b = (c + e) * d
  have q : (n * b) * (j * d2) = ((c + e) * d) * (j * d2) := by
    calc (n * b) * (j * d2) = (n * (j * d2)) * b := by simp only [Int.mul_assoc, Int.mul_left_comm, Int.mul_comm]
      _ = ((i * d2 + n2 * j) * d) * b := by rw [e3]
      _ = (i * b) * d2 * d + (n2 * b) * j * d := by simp only [Int.add_mul, Int.mul_add, Int.mul_assoc, Int.mul_left_comm, Int.mul_comm]
      _ = (c * j) * d2 * d + (e * d2) * j * d := by rw [e1, e2]
      _ = ((c + e) * d) * (j * d2) := by simp only [Int.add_mul, Int.mul_add, Int.mul_assoc, Int.mul_left_comm, Int.mul_comm]
  exact Int.eq_of_mul_eq_mul_right (Int.mul_ne_zero pj p2) q
end
end Lw

namespace Lw
open PySem PySem.Spec PyProof.Rows L2
/-! ### more of fractions, tones, heights: promises and rows -/
section
variable {P : Program} {w : World} {K : PySem.W.Frag} {mg : Str → Option Value} {base : Heap} {H H' : Hp} {Q : VK} {E : XK} {a p q x y l : Addr} {t b n d i j t' b' n' d' o f u g z z' : Int} {v : V} {mv mv' : Bool} {R : Prop}
def sp_Rmul (K : PySem.W.Frag) : Sp := fun vs H Q _ => ∃ a t b v t' b', vs = [.ref a, v] ∧ IsR K H a t b ∧ Num K H v t' b' ∧ G.Bd 900 t ∧ G.Bd 900 b ∧ G.Bd 900 t' ∧ G.Bd 900 b' ∧ ∀ z H' n d, H z = none → G.Kp H H' → IsR K H' z n d → Low (t * t') (b * b') n d → Q (.ref z) H'
def sp_Rrmul (K : PySem.W.Frag) : Sp := fun vs H Q _ => ∃ a t b i, vs = [.ref a, .int i] ∧ IsR K H a t b ∧ G.Bd 900 t ∧ G.Bd 900 b ∧ G.Bd 900 i ∧ ∀ z H' n d, H z = none → G.Kp H H' → IsR K H' z n d → Low (t * i) (b * 1) n d → Q (.ref z) H'
def sp_pitch_at (K : PySem.W.Frag) : Sp := fun vs H Q _ => ∃ x o f a t b, vs = [.ref x, .ref a] ∧ IsT K H x o f ∧ IsR K H a t b ∧ G.Bd 280 t ∧ G.Bd 140 b ∧ G.Bd 20 o ∧ G.Bd 20 f ∧ ∀ z H' n d, H z = none → G.Kp H H' → IsR K H' z n d → Val n d (f * t + o * b) b → G.Bd 600 n → G.Bd 300 d → Q (.ref z) H'
def sp_Tcall (K : PySem.W.Frag) : Sp := fun vs H Q _ => ∃ x o f a t b, vs = [.ref x, .ref a] ∧ IsT K H x o f ∧ IsR K H a t b ∧ 0 < t ∧ t < b ∧ G.Bd 280 t ∧ G.Bd 140 b ∧ G.Bd 20 o ∧ G.Bd 20 f ∧ ∀ z H' n d, H z = none → G.Kp H H' → IsR K H' z n d → Val n d (f * t + o * b) b → G.Bd 600 n → G.Bd 300 d → Q (.ref z) H'
def sp_Teq (K : PySem.W.Frag) : Sp := fun vs H Q _ => ∃ x o f y u g, vs = [.ref x, .ref y] ∧ IsT K H x o f ∧ IsT K H y u g ∧ ∀ H', G.Kp H H' → Q (.bl (decide (o = u ∧ f = g))) H'
def sp_small (K : PySem.W.Frag) : Sp := fun vs H Q _ => ∃ x o f, vs = [.ref x] ∧ IsT K H x o f ∧ -20 ≤ o ∧ o ≤ 20 ∧ -20 ≤ f ∧ f ≤ 20 ∧ ∀ H', G.Kp H H' → Q (.bl true) H'
/-- a height: its tone's octaves and fifths, its term -/
def IsH (K : PySem.W.Frag) (H : Hp) (x : Addr) (o f : Int) (mv : Bool) (z : Int) : Prop := ∃ dx y q, H x = some (.ins (He.ga K "Height") dx [("tone", .ref y), ("term", .ref q)]) ∧ IsT K H y o f ∧ IsTm K H q mv z
theorem IsH.kp (k : G.Kp H H') (h : IsH K H x o f mv z) : IsH K H' x o f mv z := let ⟨dx, y, q, e, h1, h2⟩ := h; ⟨dx, y, q, k _ _ e, h1.kp k, h2.kp k⟩
theorem IsH.md (k : G.Md p H H') (h : IsH K H x o f mv z) : IsH K H' x o f mv z := let ⟨dx, y, q, e, h1, h2⟩ := h; ⟨dx, y, q, k.ins e, h1.md k, h2.md k⟩
theorem IsH.ty (T : Tx K mg) (h : IsH K H x o f mv z) : TyX K H (.ref x) (.ref (He.ga K "Height")) := let ⟨_, _, _, e, _⟩ := h; .base (.ins e (cl_Height T) (is_Height T).ha (is_Height T).hn (is_Height T).ht (is_Height T).hm)
end
end Lw

namespace Lw
open PySem PySem.Spec PyProof.Rows L2
section
variable {P : Program} {w : World} {K : PySem.W.Frag} {mg : Str → Option Value} {base : Heap} {H H' : Hp} {Q : VK} {E : XK} {a p q x y l : Addr} {t b n d i j t' b' n' d' o f u g z z' : Int} {v : V} {mv mv' : Bool} {R : Prop}
theorem lt1 {x y : V} : List.lookup ("octaves" : Str) ([("octaves", x), ("fifths", y)] : List (Str × V)) = some x := by simp [List.lookup]
theorem lt2 {x y : V} : List.lookup ("fifths" : Str) ([("octaves", x), ("fifths", y)] : List (Str × V)) = some y := by
  have e : (("fifths" : Str) == "octaves") = false := by decide +kernel
  simp [List.lookup, e]
theorem lt0 {x y : V} {m : Str} (h1 : (m == ("octaves" : Str)) = false) (h2 : (m == ("fifths" : Str)) = false) : List.lookup m ([("octaves", x), ("fifths", y)] : List (Str × V)) = none := by simp [List.lookup, h1, h2]
theorem fld_oct (T : Tx K mg) (h : IsT K H x o f) (q : Q (.int o) H) : G.FldK K "octaves" (.ref x) H Q := let ⟨_, e⟩ := h; G.st_fldK e (cl_Tone T) (na_Tone_octaves T) lt1 q
theorem fld_fif (T : Tx K mg) (h : IsT K H x o f) (q : Q (.int f) H) : G.FldK K "fifths" (.ref x) H Q := let ⟨_, e⟩ := h; G.st_fldK e (cl_Tone T) (na_Tone_fifths T) lt2 q
theorem isi_TT (T : Tx K mg) (h : IsT K H x o f) (q : Q (.bl true) H) : G.rIsiG K [.ref x, .ref (He.ga K "Tone")] H Q := G.isi_cl (h.ty T) (ki_Tone_Tone T) q
theorem rc_pitch_at (T : Tx K mg) (h : IsT K H x o f) (q : R) : G.RecvP K "pitch_at" (a_Tone_pitch_at K) (.ref x) H R := let ⟨_, e⟩ := h; ⟨x, _, _, _, rfl, e, cl_Tone T, me_Tone_pitch_at T, lt0 (by decide +kernel) (by decide +kernel), q⟩
theorem mul_Ri (h : IsR K H a t b) (b1 : G.Bd 900 t) (b2 : G.Bd 900 b) (b3 : G.Bd 900 i) (q : ∀ z H' n d, H z = none → G.Kp H H' → IsR K H' z n d → Low (t * i) (b * 1) n d → Q (.ref z) H') : G.rBinI (He.ga K "Ratio") (sp_Rmul K) E (.ref a) (.int i) H Q :=
  let ⟨dx, e1⟩ := h.at_
  ⟨a, dx, _, i, rfl, rfl, e1, a, t, b, .int i, i, 1, rfl, h, .of_int (b3.mono (by decide)), b1, b2, b3, (G.Bd.lit 1).mono (by decide), q⟩
theorem rmul_R (h : IsR K H a t b) (b1 : G.Bd 900 t) (b2 : G.Bd 900 b) (b3 : G.Bd 900 i) (q : ∀ z H' n d, H z = none → G.Kp H H' → IsR K H' z n d → Low (t * i) (b * 1) n d → Q (.ref z) H') : G.rBinR (He.ga K "Ratio") (sp_Rrmul K) E (.int i) (.ref a) H Q :=
  let ⟨dx, e1⟩ := h.at_
  ⟨a, dx, _, i, rfl, rfl, e1, a, t, b, i, rfl, h, b1, b2, b3, q⟩
theorem add_RR (h : IsR K H a t b) (k : IsR K H x t' b') (b1 : G.Bd 900 t) (b2 : G.Bd 900 b) (b3 : G.Bd 900 t') (b4 : G.Bd 900 b') (q : ∀ z H' n d, H z = none → G.Kp H H' → IsR K H' z n d → Low (t * b' + t' * b) (b * b') n d → Q (.ref z) H') : G.rBinS (He.ga K "Ratio") (sp_Radd K) E (.ref a) (.ref x) H Q :=
  let ⟨dx, e1⟩ := h.at_
  let ⟨dy, e2⟩ := k.at_
  ⟨a, dx, _, x, dy, _, rfl, rfl, e1, e2, a, t, b, .ref x, t', b', rfl, h, .of_r k, b1, b2, b3, b4, q⟩
theorem pitch_at_T (h : IsT K H x o f) (k : IsR K H a t b) (b1 : G.Bd 280 t) (b2 : G.Bd 140 b) (b3 : G.Bd 20 o) (b4 : G.Bd 20 f) (q : ∀ z H' n d, H z = none → G.Kp H H' → IsR K H' z n d → Val n d (f * t + o * b) b → G.Bd 600 n → G.Bd 300 d → Q (.ref z) H') : sp_pitch_at K [.ref x, .ref a] H Q E := ⟨x, o, f, a, t, b, rfl, h, k, b1, b2, b3, b4, q⟩
end
end Lw

local macro_rules | `(tactic| walk_at "hp") => `(tactic| first
  | (with_reducible refine Lw.IsH.kp (by assumption) ?_; walk_at "hp")
  | (with_reducible refine Lw.IsH.md (by assumption) ?_; walk_at "hp"))
local macro_rules | `(tactic| walk_at "gx") => `(tactic| first
  | ((with_reducible refine Lw.fld_oct (o := ?z0) (f := ?z1) (by assumption) ?h ?_); (case h => walk_at "hp"))
  | ((with_reducible refine Lw.fld_fif (o := ?z0) (f := ?z1) (by assumption) ?h ?_); (case h => walk_at "hp"))
  | ((with_reducible refine Lw.isi_TT (o := ?z0) (f := ?z1) (by assumption) ?h ?_); (case h => walk_at "hp"))
  | ((with_reducible refine Lw.rc_pitch_at (o := ?z0) (f := ?z1) (by assumption) ?h ?_); (case h => walk_at "hp"))
  | ((with_reducible refine Lw.mul_Ri (t := ?z0) (b := ?z1) ?h1 ?h2 ?h3 ?h4 ?_); (case h1 => walk_at "hp"); (case h2 => walk_at "bdw"); (case h3 => walk_at "bdw"); (case h4 => walk_at "bdw"); intro _ _ _ _ _ _ _ _)
  | ((with_reducible refine Lw.rmul_R (t := ?z0) (b := ?z1) ?h1 ?h2 ?h3 ?h4 ?_); (case h1 => walk_at "hp"); (case h2 => walk_at "bdw"); (case h3 => walk_at "bdw"); (case h4 => walk_at "bdw"); intro _ _ _ _ _ _ _ _)
  | ((with_reducible refine Lw.add_RR (t := ?z0) (b := ?z1) (t' := ?z2) (b' := ?z3) ?h1 ?k1 ?h2 ?h3 ?h4 ?h5 ?_); (case h1 => walk_at "hp"); (case k1 => walk_at "hp"); (case h2 => walk_at "bdw"); (case h3 => walk_at "bdw"); (case h4 => walk_at "bdw"); (case h5 => walk_at "bdw"); intro _ _ _ _ _ _ _ _)
  | ((with_reducible refine Lw.pitch_at_T (o := ?z0) (f := ?z1) (t := ?z2) (b := ?z3) ?h1 ?k1 ?h2 ?h3 ?h4 ?h5 ?_); (case h1 => walk_at "hp"); (case k1 => walk_at "hp"); (case h2 => walk_at "bdw"); (case h3 => walk_at "bdw"); (case h4 => walk_at "bdw"); (case h5 => walk_at "bdw"); intro _ _ _ _ _ _ _ _ _ _))

namespace Lw
open PySem PySem.Spec PyProof.Rows L2
section
variable {P : Program} {w : World} {K : PySem.W.Frag} {mg : Str → Option Value} {base : Heap}
theorem ok_Ratio_mul (T : Tx K mg) : G.FnG P w K mg base CX0 5 (a_Ratio_mul K) (G.fdOf K (a_Ratio_mul K)) ["self", "other"] (sp_Rmul K) := by
  refine G.ok_of (F_Ratio_mul T) sc_Ratio_mul (fun vs H Q E h => ?_) (fun cdv A outer s H vs Q E hr h => ?_)
  · obtain ⟨a, t, b, v, t', b', rfl, _⟩ := h
    rfl
  · obtain ⟨a, t, b, v, t', b', rfl, ha, hv, b1, b2, b3, b4, q⟩ := h
    have hp : b * b' ≠ 0 := Int.ne_of_gt (Int.mul_pos ha.pos hv.pos)
    refine ⟨_, (pss_cons (ps_if (pt_not (pt_val (G.pe_smeth (G.pe_cl rfl (gl_Ratio T)) (rd_Ratio T) (sm_Ratio_is_number T) (ok_Ratio_is_number T) (hr.mono (by first | decide | omega)) (bi_Ratio_is_number T) .nil pass0 (pa_cons (pv 1) pa_nil)))) (pss_one ps_never) pss_nil)
    (pss_cons (ps_asg (G.pe_callG (ok_parts_of T) (hr.mono (by first | decide | omega)) rfl (gl_parts_of T) (F_parts_of T).kp (bi_parts_of T) .nil pass0 (pa_cons (pv 1) pa_nil)) (pg_tup (n := 2) (by rfl) (pgs_cons (pg_name (i := 2) sc_Ratio_mul.nd rfl (Or.inl rfl)) (pgs_cons (pg_name (i := 3) sc_Ratio_mul.nd rfl (Or.inl rfl)) pgs_nil))))
    (pss_one (ps_ret (G.pe_makeG (mk_Ratio T) (ok_Ratio_init T) (hr.mono (by first | decide | omega)) rfl (gl_Ratio T) (bi_Ratio_init T) .nil pass0 (pa_cons (pe_op G.op_mulG (pe_fld (pv 0) rfl) (pv 2)) (pa_cons (pe_op G.op_mulG (pe_fld (pv 0) rfl) (pv 3)) pa_nil))))))), ?_⟩
    walk_at "start"
    walk_at "gob"
    exact q _ _ _ _ (by walk_at "fr") (by walk_at "kp") (by assumption) (by assumption)
theorem ok_Ratio_rmul (T : Tx K mg) : G.FnG P w K mg base CX0 6 (a_Ratio_rmul K) (G.fdOf K (a_Ratio_rmul K)) ["self", "other"] (sp_Rrmul K) := by
  refine G.ok_of (F_Ratio_rmul T) sc_Ratio_rmul (fun vs H Q E h => ?_) (fun cdv A outer s H vs Q E hr h => ?_)
  · obtain ⟨a, t, b, i, rfl, _⟩ := h
    rfl
  · obtain ⟨a, t, b, i, rfl, ha, b1, b2, b3, q⟩ := h
    refine ⟨_, (pss_one (ps_ret (pe_op (G.bin1_I (op := .Mult) (op_Ratio_mul T) (oi_Ratio_mul T) (ok_Ratio_mul T) (hr.mono (by decide)) (bi_Ratio_mul T) pass0) (pv 0) (pv 1)))), ?_⟩
    walk_at "start"
    walk_at "gob"
    exact q _ _ _ _ (by walk_at "fr") (by walk_at "kp") (by assumption) (by assumption)
theorem ok_Tone_pitch_at (T : Tx K mg) : G.FnG P w K mg base CX0 7 (a_Tone_pitch_at K) (G.fdOf K (a_Tone_pitch_at K)) ["self", "value"] (sp_pitch_at K) := by
  refine G.ok_of (F_Tone_pitch_at T) sc_Tone_pitch_at (fun vs H Q E h => ?_) (fun cdv A outer s H vs Q E hr h => ?_)
  · obtain ⟨x, o, f, a, t, b, rfl, _⟩ := h
    rfl
  · obtain ⟨x, o, f, a, t, b, rfl, hx, ha, b1, b2, b3, b4, q⟩ := h
    have hp := ha.pos
    refine ⟨_, (pss_one (ps_ret (pe_op (G.bin1_I (op := .Add) (op_Ratio_add T) (oi_Ratio_add T) (ok_Ratio_add T) (hr.mono (by decide)) (bi_Ratio_add T) pass0) (pe_op (G.bin1_R (op := .Mult) (op_Ratio_mul T) (ow_Ratio_rmul T) PySem.F.fills_int_mul G.declines_mul (si_Ratio T) (ok_Ratio_rmul T) (hr.mono (by decide)) (bi_Ratio_rmul T) pass0) (pe_fld (pv 0) rfl) (pv 1)) (pe_fld (pv 0) rfl)))), ?_⟩
    walk_at "start"
    walk_at "gob"
    rename_i r H1 n1 d1 e1 k1 r1 l1
    have c1 := l1.bn (by omega) (b1.mul b4)
    have c2 := l1.bd (by omega) (b2.mul (G.Bd.lit 1))
    walk_at "gob"
    rename_i s1 H2 n2 d2 e2 k2 r2 l2
    have p1 := r1.pos
    have g1 := l2.bn (by omega) ((c1.mul (G.Bd.lit 1)).add (b3.mul c2))
    have g2 := l2.bd (by omega) (c2.mul (G.Bd.lit 1))
    exact q _ _ _ _ (by walk_at "fr") (by walk_at "kp") r2 (val_pitch (by omega) l1 l2) (g1.mono (by decide +kernel)) (g2.mono (by decide +kernel))
theorem ok_Tone_call (T : Tx K mg) : G.FnG P w K mg base CX0 9 (a_Tone_call K) (G.fdOf K (a_Tone_call K)) ["self", "fifth"] (sp_Tcall K) := by
  refine G.ok_of (F_Tone_call T) sc_Tone_call (fun vs H Q E h => ?_) (fun cdv A outer s H vs Q E hr h => ?_)
  · obtain ⟨x, o, f, a, t, b, rfl, _⟩ := h
    rfl
  · obtain ⟨x, o, f, a, t, b, rfl, hx, ha, h0, h1, b1, b2, b3, b4, q⟩ := h
    refine ⟨_, (pss_cons (ps_expr (G.pe_callG (ok_need_fifth T) (hr.mono (by first | decide | omega)) rfl (gl_need_fifth T) (F_need_fifth T).kp (bi_need_fifth T) .nil pass0 (pa_cons (pv 1) pa_nil)))
    (pss_one (ps_ret (G.pe_methP (pv 0) (ok_Tone_pitch_at T) (hr.mono (by first | decide | omega)) (bi_Tone_pitch_at T) .nil pass0 (pa_cons (pv 1) pa_nil))))), ?_⟩
    walk_at "start"
    walk_at "gob"
    exact q _ _ _ _ (by walk_at "fr") (by walk_at "kp") (by assumption) (by assumption) (by assumption) (by assumption)
theorem ok_Tone_eq (T : Tx K mg) : G.FnG P w K mg base CX0 2 (a_Tone_eq K) (G.fdOf K (a_Tone_eq K)) ["self", "other"] (sp_Teq K) := by
  refine G.ok_of (F_Tone_eq T) sc_Tone_eq (fun vs H Q E h => ?_) (fun cdv A outer s H vs Q E hr h => ?_)
  · obtain ⟨x, o, f, y, u, g, rfl, _⟩ := h
    rfl
  · obtain ⟨x, o, f, y, u, g, rfl, h1, h2, q⟩ := h
    refine ⟨_, (pss_one (ps_ret (pe_and (pe_callB G.call_isiG (by rfl) (fr_isinstance T) boot_isinstance (pa_cons (pv 1) (pa_cons (G.pe_cl rfl (gl_Tone T)) pa_nil))) (pe_one (pe_cmpR (G.op_eqG hr.units) (pe_tup (pa_cons (pe_fld (pv 0) rfl) (pa_cons (pe_fld (pv 0) rfl) pa_nil))) (pe_tup (pa_cons (pe_fld (pv 1) rfl) (pa_cons (pe_fld (pv 1) rfl) pa_nil))) (nomark _)))))), ?_⟩
    walk_at "start"
    walk_at "gob"
    exact q _ (by walk_at "kp")
end
end Lw

namespace Lw
open PySem PySem.Spec PyProof.Rows L2
section
variable {P : Program} {w : World} {K : PySem.W.Frag} {mg : Str → Option Value} {base : Heap} {H H' : Hp} {Q : VK} {E : XK} {a p q x y l : Addr} {t b n d i j t' b' n' d' o f u g z z' : Int} {v : V} {mv mv' : Bool} {R : Prop}
theorem ok_is_small (T : Tx K mg) : G.FnG P w K mg base CX0 4 (a_is_small K) (G.fdOf K (a_is_small K)) ["tone"] (sp_small K) := by
  refine G.ok_of (F_is_small T) sc_is_small (fun vs H Q E h => ?_) (fun cdv A outer s H vs Q E hr h => ?_)
  · obtain ⟨x, o, f, rfl, _⟩ := h
    rfl
  · obtain ⟨x, o, f, rfl, hx, h1, h2, h3, h4, q⟩ := h
    refine ⟨_, (pss_cons (ps_if (pt_not (pt_val (pe_callB G.call_isiG (by rfl) (fr_isinstance T) boot_isinstance (pa_cons (pv 0) (pa_cons (G.pe_cl rfl (gl_Tone T)) pa_nil))))) (pss_one (ps_ret pe_bl)) pss_nil)
    (pss_one (ps_ret (pe_callB (cr_all rfl) (by rfl) (fr_all T) boot_all (pa_cons (pe_lc (own := [("part", 1)]) (by rfl) sc_is_small.nd (pi_tup (pe_tup (pa_cons (pe_fld (pv 0) rfl) (pa_cons (pe_fld (pv 0) rfl) pa_nil)))) (blkOk_by (N := ["tone", "part"]) (sc := defScope s_is_small) (by decide +kernel)) (fun _ _ _ _ _ => (pg_name (i := 1) sc_is_small.nd rfl (Or.inl rfl))) (fun _ _ _ _ _ => pts_nil) (fun _ _ _ _ _ => (G.pe_callG (ok_is_between T) (hr.mono (by first | decide | omega)) rfl (gl_is_between T) (F_is_between T).kp (bi_is_between T) .nil pass0 (pa_cons (pv 1) (pa_cons (pe_un G.un_negG (Exists.elim (gi_MOST_TONE T) fun _ hM => pe_glob (v := .int 20) rfl hM ⟨_, rfl⟩)) (pa_cons (Exists.elim (gi_MOST_TONE T) fun _ hM => pe_glob (v := .int 20) rfl hM ⟨_, rfl⟩) pa_nil)))))) pa_nil))))), ?_⟩
    walk_at "start"
    walk_at "gob"
    refine G.st_iTup ?_
    walk_at "gob"
    rename_i u H1 n1 k1 e1
    refine G.st_iTK (SqT.of e1) ?_
    refine G.lc_tupG (xs := [.int o, .int f]) (σ0 := ?z0) (fun D i H' => H' D = some (.lst ((List.replicate i true).map V.bl)) ∧ G.Kp H1 H' ∧ H1 D = none) ?e ?h0 ?hl ?hs ?hd
    case e => (simp only [List.map_cons, List.map_nil, L2.wipe, List.set_cons_zero, List.set_cons_succ]; rfl)
    case h0 => exact fun D H2 hn k e => ⟨e, k, hn⟩
    case hl => exact fun D j H' hj ⟨e, k, _⟩ => SqT.of (k _ _ e1)
    case hs =>
      rintro D j v H' hv ⟨e, k, hn⟩
      obtain ⟨c, rfl, c1, c2⟩ : ∃ c, v = V.int c ∧ -20 ≤ c ∧ c ≤ 20 := by
        have hm := List.mem_of_getElem? hv
        simp only [List.mem_cons, List.not_mem_nil, or_false] at hm
        rcases hm with rfl | rfl
        · exact ⟨_, rfl, h1, h2⟩
        · exact ⟨_, rfl, h3, h4⟩
      have jl : j < 2 := (List.getElem?_eq_some_iff.mp hv).1
      have lt : ((List.replicate j true).map V.bl).length < sizeLine := by
        rw [List.length_map, List.length_replicate, sizeLine_eq]
        omega
      walk_at "gob"
      rename_i H2 m2 e2
      refine ⟨?_, k.md_new m2 hn, hn⟩
      rw [e2, show decide (-20 ≤ c ∧ c ≤ 20) = true by simp [c1, c2], List.replicate_succ', List.map_append]
      rfl
    case hd =>
      rintro D H' ⟨e, k, _⟩
      refine G.all_l (bs := List.replicate 2 true) (SqL.of e) ?_
      exact q H' (k1.trans k)
def sp_H_init (K : PySem.W.Frag) : Sp := fun vs H Q _ => ∃ x dx y q o f mv z, vs = [.ref x, .ref y, .ref q] ∧ H x = some (.ins (He.ga K "Height") dx []) ∧ IsT K H y o f ∧ IsTm K H q mv z ∧ -20 ≤ o ∧ o ≤ 20 ∧ -20 ≤ f ∧ f ≤ 20 ∧
  ∀ H', G.Mi x H H' → H' x = some (.ins (He.ga K "Height") dx [("tone", .ref y), ("term", .ref q)]) → Q .non H'
def sp_H_pitch (K : PySem.W.Frag) : Sp := fun vs H Q _ => ∃ x n a o f mv z t b, vs = [.ref x, .int n, .ref a] ∧ IsH K H x o f mv z ∧ IsR K H a t b ∧ 0 < t ∧ t < b ∧ G.Bd 280 t ∧ G.Bd 140 b ∧ G.Bd 20 o ∧ G.Bd 20 f ∧ G.Bd 300 n ∧ G.Bd 10 z ∧
  ∀ r H' c d, H r = none → G.Kp H H' → IsR K H' r c d → Val c d ((n * mvi mv + z) * t % b + (f * t + o * b)) b → Q (.ref r) H'
theorem fld_tone (T : Tx K mg) (h : IsH K H x o f mv z) (k : ∀ y, IsT K H y o f → Q (.ref y) H) : G.FldK K "tone" (.ref x) H Q :=
  let ⟨_, y, _, e, h1, _⟩ := h
  G.st_fldK e (cl_Height T) (na_Height_tone T) (by simp [List.lookup]) (k y h1)
theorem lh2 {x y : V} : List.lookup ("term" : Str) ([("tone", x), ("term", y)] : List (Str × V)) = some y := by
  have e : (("term" : Str) == "tone") = false := by decide +kernel
  simp [List.lookup, e]
theorem fld_term (T : Tx K mg) (h : IsH K H x o f mv z) (k : ∀ y, IsTm K H y mv z → Q (.ref y) H) : G.FldK K "term" (.ref x) H Q :=
  let ⟨_, _, y, e, _, h1⟩ := h
  G.st_fldK e (cl_Height T) (na_Height_term T) lh2 (k y h1)
theorem att_tone (T : Tx K mg) {R : V → (Hp → Prop) → Prop} (h : IsH K H x o f mv z) (k : ∀ y, IsT K H y o f → R (.ref y) fun H2 => ∃ dy gs, H2 y = some (.ins (He.ga K "Tone") dy gs)) : G.AttK K "tone" (a_Tone_call K) (.ref x) H R :=
  let ⟨dx, y, _, e, h1, _⟩ := h
  ⟨x, _, dx, _, y, He.ga K "Tone", rfl, e, cl_Height T, na_Height_tone T, by simp [List.lookup], ow_Tone_call T, fn_Tone_call T, k y h1⟩
theorem stand_T {W : Prop} (h : IsT K H y o f) (k : W) : (∃ dy gs, H y = some (.ins (He.ga K "Tone") dy gs)) ∧ W := let ⟨dy, e⟩ := h; ⟨⟨dy, _, e⟩, k⟩
theorem small_T (h : IsT K H x o f) (h1 : -20 ≤ o) (h2 : o ≤ 20) (h3 : -20 ≤ f) (h4 : f ≤ 20) (k : ∀ H', G.Kp H H' → Q (.bl true) H') : sp_small K [.ref x] H Q E := ⟨x, o, f, rfl, h, h1, h2, h3, h4, k⟩
theorem call_T (h : IsT K H x o f) (k : IsR K H a t b) (h0 : 0 < t) (h1 : t < b) (b1 : G.Bd 280 t) (b2 : G.Bd 140 b) (b3 : G.Bd 20 o) (b4 : G.Bd 20 f) (r : ∀ z H' n d, H z = none → G.Kp H H' → IsR K H' z n d → Val n d (f * t + o * b) b → G.Bd 600 n → G.Bd 300 d → Q (.ref z) H') : sp_Tcall K [.ref x, .ref a] H Q E :=
  ⟨x, o, f, a, t, b, rfl, h, k, h0, h1, b1, b2, b3, b4, r⟩
end
end Lw

local macro_rules | `(tactic| walk_at "g") => `(tactic| first
  | with_reducible refine G.st_callF ?_
  | with_reducible refine G.st_iTup ?_)
local macro_rules | `(tactic| walk_at "gx") => `(tactic| first
  | ((with_reducible refine Lw.fld_tone (o := ?z0) (f := ?z1) (mv := ?z2) (z := ?z3) (by assumption) ?h ?_); (case h => walk_at "hp"); intro _ _)
  | ((with_reducible refine Lw.fld_term (o := ?z0) (f := ?z1) (mv := ?z2) (z := ?z3) (by assumption) ?h ?_); (case h => walk_at "hp"); intro _ _)
  | ((with_reducible refine Lw.att_tone (o := ?z0) (f := ?z1) (mv := ?z2) (z := ?z3) (by assumption) ?h ?_); (case h => walk_at "hp"); intro _ _)
  | ((with_reducible refine Lw.stand_T (o := ?z0) (f := ?z1) ?h ?_); (case h => walk_at "hp"))
  | ((with_reducible refine Lw.small_T (o := ?z0) (f := ?z1) ?h ?h1 ?h2 ?h3 ?h4 ?_); (case h => walk_at "hp"); (case h1 => omega); (case h2 => omega); (case h3 => omega); (case h4 => omega); intro _ _)
  | ((with_reducible refine Lw.call_T (o := ?z0) (f := ?z1) (t := ?z2) (b := ?z3) ?h ?k ?h0 ?h1 ?b1 ?b2 ?b3 ?b4 ?_); (case h => walk_at "hp"); (case k => walk_at "hp"); (case h0 => first | assumption | omega); (case h1 => first | assumption | omega); (case b1 => walk_at "bdw"); (case b2 => walk_at "bdw"); (case b3 => walk_at "bdw"); (case b4 => walk_at "bdw"); intro _ _ _ _ _ _ _ _ _ _))

namespace Lw
open PySem PySem.Spec PyProof.Rows L2
section
variable {P : Program} {w : World} {K : PySem.W.Frag} {mg : Str → Option Value} {base : Heap}
theorem pf_H {x y : V} : putF ("term" : Str) y (putF ("tone" : Str) x []) = ([("tone", x), ("term", y)] : List (Str × V)) := by
  have e : ¬ (("tone" : Str) = "term") := by decide +kernel
  show (if ("tone" : Str) = "term" then [(("tone" : Str), y)] else (("tone" : Str), x) :: putF "term" y []) = ([("tone", x), ("term", y)] : List (Str × V))
  rw [if_neg e]
  rfl
theorem ok_Height_init (T : Tx K mg) : G.FnG P w K mg base CX0 6 (a_Height_init K) (G.fdOf K (a_Height_init K)) ["self", "tone", "term"] (sp_H_init K) := by
  refine G.ok_of (F_Height_init T) sc_Height_init (fun vs H Q E h => ?_) (fun cdv A outer s H vs Q E hr h => ?_)
  · obtain ⟨x, dx, y, q, o, f, mv, z, rfl, _⟩ := h
    rfl
  · obtain ⟨x, dx, y, q, o, f, mv, z, rfl, hx, hy, hq, h1, h2, h3, h4, k⟩ := h
    refine ⟨_, (pss_cons (ps_if (pt_not (pt_val (G.pe_callG (ok_is_small T) (hr.mono (by first | decide | omega)) rfl (gl_is_small T) (F_is_small T).kp (bi_is_small T) .nil pass0 (pa_cons (pv 1) pa_nil)))) (pss_one ps_never) pss_nil)
    (pss_cons (ps_if (pt_not (pt_val (pe_callB G.call_isiG (by rfl) (fr_isinstance T) boot_isinstance (pa_cons (pv 2) (pa_cons (G.pe_cl rfl (gl_Term T)) pa_nil))))) (pss_one ps_never) pss_nil)
    (pss_cons (ps_fld (pv 0) (pv 1) rfl)
    (pss_one (ps_fld (pv 0) (pv 2) rfl))))), ?_⟩
    walk_at "start"
    walk_at "gob"
    rename_i H1 k1 _ _
    refine G.st_setfldM (k1 _ _ hx) (cl_Height T) (na_Height_tone T) (by decide) fun H6 m6 e6 => ?_
    walk_at "gob"
    refine G.st_setfldM e6 (cl_Height T) (na_Height_term T) (by show 1 < 1000; decide) fun H8 m8 e8 => ?_
    walk_at "gob"
    exact k H8 (((G.Mi.of_kp k1).trans m6).trans m8) (e8.trans (congrArg (fun z => some (HO.ins (He.ga K "Height") dx z)) pf_H))
theorem ok_Height_pitch (T : Tx K mg) : G.FnG P w K mg base CX0 10 (a_Height_pitch K) (G.fdOf K (a_Height_pitch K)) ["self", "n", "fifth"] (sp_H_pitch K) := by
  refine G.ok_of (F_Height_pitch T) sc_Height_pitch (fun vs H Q E h => ?_) (fun cdv A outer s H vs Q E hr h => ?_)
  · obtain ⟨x, n, a, o, f, mv, z, t, b, rfl, _⟩ := h
    rfl
  · obtain ⟨x, n, a, o, f, mv, z, t, b, rfl, hx, ha, h0, h1, b1, b2, b3, b4, b5, b6, q⟩ := h
    have hp := ha.pos
    refine ⟨_, (pss_one (ps_ret (pe_op (G.bin1_S (op := .Add) (op_Ratio_add T) (ok_Ratio_add T) (hr.mono (by decide)) (bi_Ratio_add T) pass0) (G.pe_methP (pe_fld (pv 0) rfl) (ok_Term_position T) (hr.mono (by first | decide | omega)) (bi_Term_position T) .nil pass0 (pa_cons (pv 1) (pa_cons (pv 2) pa_nil))) (G.pe_callF (pv 0) (ok_Tone_call T) (hr.mono (by first | decide | omega)) (bi_Tone_call T) .nil pass0 (pa_cons (pv 2) pa_nil))))), ?_⟩
    walk_at "start"
    walk_at "gob"
    rename_i y1 i1 r1 H1 c d e1 k1 q1 l1 y2 i2 r2 H2 c2 d2 e2 k2 q2 v2 g1 g2
    have u0 : G.Bd 140 ((n * mvi mv + z) * t % b) := G.Bd.of_le b2 (by
      have := Int.emod_nonneg ((n * mvi mv + z) * t) (show b ≠ 0 by omega)
      have := Int.emod_lt_of_pos ((n * mvi mv + z) * t) hp
      omega)
    have u1 := l1.bn (by omega) u0
    have u2 := l1.bd (by omega) b2
    have p1 := q1.pos
    have p2 := q2.pos
    walk_at "gob"
    rename_i r3 H3 c3 d3 e3 k3 q3 l3
    exact q _ _ _ _ (by walk_at "fr") (by walk_at "kp") q3 (val_sum (by omega) (by omega) l1.val v2 l3)
/-- heights are moved, mirrored, compared -/
def sp_H_moved (K : PySem.W.Frag) : Sp := fun vs H Q _ => ∃ x o f mv z i, vs = [.ref x, .int i] ∧ IsH K H x o f mv z ∧ -20 ≤ o ∧ o ≤ 20 ∧ -20 ≤ f ∧ f ≤ 20 ∧ -12 ≤ z + i ∧ z + i ≤ 12 ∧ ∀ r H', H r = none → G.Kp H H' → IsH K H' r o f mv (z + i) → Q (.ref r) H'
def sp_H_mirrored (K : PySem.W.Frag) : Sp := fun vs H Q _ => ∃ x o f mv z, vs = [.ref x] ∧ IsH K H x o f mv z ∧ -20 ≤ o + f ∧ o + f ≤ 20 ∧ -20 ≤ f ∧ f ≤ 20 ∧ -12 ≤ z ∧ z ≤ 12 ∧ ∀ r H', H r = none → G.Kp H H' → IsH K H' r (o + f) (-f) mv (-z) → Q (.ref r) H'
theorem mk_H {H : Hp} {Q : VK} {E : XK} {y q : Addr} {o f z : Int} {mv : Bool} (hy : IsT K H y o f) (hq : IsTm K H q mv z) (h1 : -20 ≤ o) (h2 : o ≤ 20) (h3 : -20 ≤ f) (h4 : f ≤ 20) (k : ∀ r H', H r = none → G.Kp H H' → IsH K H' r o f mv z → Q (.ref r) H') :
    G.MakeK (He.ga K "Height") (sp_H_init K) [] E [.ref y, .ref q] H Q :=
  G.st_mkK fun x dx H1 hn k1 hx => ⟨x, dx, y, q, o, f, mv, z, rfl, hx, hy.kp k1, hq.kp k1, h1, h2, h3, h4, fun H' j e => ⟨rfl, by
    have kk := G.Kp.init hn k1 j
    exact k x H' hn kk ⟨dx, y, q, e, hy.kp kk, hq.kp kk⟩⟩⟩
end
end Lw

local macro_rules | `(tactic| walk_at "gx") => `(tactic| ((with_reducible refine Lw.mk_H (o := ?z0) (f := ?z1) (mv := ?z2) (z := ?z3) ?h ?k ?h1 ?h2 ?h3 ?h4 ?_); (case h => walk_at "hp"); (case k => walk_at "hp"); (case h1 => omega); (case h2 => omega); (case h3 => omega); (case h4 => omega); intro _ _ _ _ _))

namespace Lw
open PySem PySem.Spec PyProof.Rows L2
section
variable {P : Program} {w : World} {K : PySem.W.Frag} {mg : Str → Option Value} {base : Heap} {H H' : Hp} {Q : VK} {E : XK} {x y a b : Addr} {o f u g z z' : Int} {v : V} {mv mv' : Bool}
theorem mk_T2 (q : ∀ x H', H x = none → G.Kp H H' → IsT K H' x o f → Q (.ref x) H') : G.MakeK (He.ga K "Tone") (sp_Tone_init K) [] E [.int o, .int f] H Q :=
  G.st_mkK fun x dx H1 hn k hx => ⟨x, dx, o, f, rfl, hx, fun H' j e => ⟨rfl, q x H' hn (G.Kp.init hn k j) ⟨dx, e⟩⟩⟩
theorem eq_TT (T : Tx K mg) (h1 : IsT K H x o f) (h2 : IsT K H y u g) (q : ∀ H', G.Kp H H' → Q (.bl (decide (o = u ∧ f = g))) H') : G.rCmpP K (cmpInfo .Eq).2.1 (a_Tone_eq K) (sp_Teq K) E (.ref x) (.ref y) H Q :=
  let ⟨dx, e1⟩ := h1
  ⟨x, _, dx, _, _, rfl, e1, ow_Tone_eq T, h2.ty T, nf_Tone_Tone T, x, o, f, y, u, g, rfl, h1, h2, q⟩
theorem ne_TT (T : Tx K mg) (h1 : IsT K H x o f) (h2 : IsT K H y u g) (q : ∀ H', G.Kp H H' → Q (.bl (!decide (o = u ∧ f = g))) H') : G.rNeP K (a_Tone_eq K) (sp_Teq K) E (.ref x) (.ref y) H Q :=
  let ⟨dx, e1⟩ := h1
  ⟨x, _, dx, _, _, rfl, e1, ne_Tone T, h2.ty T, nf_Tone_Tone T, x, o, f, y, u, g, rfl, h1, h2, fun H' k => ⟨_, rfl, q H' k⟩⟩
theorem isi_HH (T : Tx K mg) (h : IsH K H x o f mv z) (q : Q (.bl true) H) : G.rIsiG K [.ref x, .ref (He.ga K "Height")] H Q := G.isi_cl (h.ty T) (ki_Height_Height T) q
theorem isi_oH {tv : Value} (ty : TyX K H v tv) (k : PySem.W.kitOne K tv (.ref (He.ga K "Height")) = some false) (q : Q (.bl false) H) : G.rIsiG K [v, .ref (He.ga K "Height")] H Q := G.isi_cl ty k q
def sp_H_eq (K : PySem.W.Frag) : Sp := fun vs H Q _ => ∃ x o f mv z v, vs = [.ref x, v] ∧ IsH K H x o f mv z ∧ ((∃ y u g mv' z', v = .ref y ∧ IsH K H y u g mv' z' ∧ ∀ H', G.Kp H H' → Q (.bl (decide (o = u ∧ f = g ∧ mv = mv' ∧ z = z'))) H') ∨ ∃ tv, TyX K H v tv ∧ PySem.W.kitOne K tv (.ref (He.ga K "Height")) = some false ∧ Q (.bl false) H)
end
end Lw

local macro_rules | `(tactic| walk_at "gx") => `(tactic| first
  | ((with_reducible refine Lw.mk_T2 ?_); intro _ _ _ _ _)
  | ((with_reducible refine Lw.eq_TT (o := ?z0) (f := ?z1) (u := ?z2) (g := ?z3) (by assumption) ?h1 ?h2 ?_); (case h1 => walk_at "hp"); (case h2 => walk_at "hp"); intro _ _)
  | ((with_reducible refine Lw.ne_TT (o := ?z0) (f := ?z1) (u := ?z2) (g := ?z3) (by assumption) ?h1 ?h2 ?_); (case h1 => walk_at "hp"); (case h2 => walk_at "hp"); intro _ _)
  | ((with_reducible refine Lw.isi_HH (o := ?z0) (f := ?z1) (mv := ?z2) (z := ?z3) (by assumption) ?h ?_); (case h => walk_at "hp"))
  | with_reducible refine Lw.isi_oH (by assumption) (by assumption) ?_)

namespace Lw
open PySem PySem.Spec PyProof.Rows L2
section
variable {P : Program} {w : World} {K : PySem.W.Frag} {mg : Str → Option Value} {base : Heap}
theorem ok_Height_moved (T : Tx K mg) : G.FnG P w K mg base CX0 9 (a_Height_moved K) (G.fdOf K (a_Height_moved K)) ["self", "number"] (sp_H_moved K) := by
  refine G.ok_of (F_Height_moved T) sc_Height_moved (fun vs H Q E h => ?_) (fun cdv A outer s H vs Q E hr h => ?_)
  · obtain ⟨x, o, f, mv, z, i, rfl, _⟩ := h
    rfl
  · obtain ⟨x, o, f, mv, z, i, rfl, hx, h1, h2, h3, h4, h5, h6, q⟩ := h
    refine ⟨_, (pss_one (ps_ret (G.pe_makeG (mk_Height T) (ok_Height_init T) (hr.mono (by first | decide | omega)) rfl (gl_Height T) (bi_Height_init T) .nil pass0 (pa_cons (pe_fld (pv 0) rfl) (pa_cons (G.pe_methP (pe_fld (pv 0) rfl) (ok_Term_moved T) (hr.mono (by first | decide | omega)) (bi_Term_moved T) .nil pass0 (pa_cons (pv 1) pa_nil)) pa_nil))))), ?_⟩
    walk_at "start"
    walk_at "gob"
    exact q _ _ (by walk_at "fr") (by walk_at "kp") (by assumption)
theorem ok_Height_mirrored (T : Tx K mg) : G.FnG P w K mg base CX0 9 (a_Height_mirrored K) (G.fdOf K (a_Height_mirrored K)) ["self"] (sp_H_mirrored K) := by
  refine G.ok_of (F_Height_mirrored T) sc_Height_mirrored (fun vs H Q E h => ?_) (fun cdv A outer s H vs Q E hr h => ?_)
  · obtain ⟨x, o, f, mv, z, rfl, _⟩ := h
    rfl
  · obtain ⟨x, o, f, mv, z, rfl, hx, h1, h2, h3, h4, h5, h6, q⟩ := h
    refine ⟨_, (pss_one (ps_ret (G.pe_makeG (mk_Height T) (ok_Height_init T) (hr.mono (by first | decide | omega)) rfl (gl_Height T) (bi_Height_init T) .nil pass0 (pa_cons (G.pe_makeG (mk_Tone T) (ok_Tone_init T) (hr.mono (by first | decide | omega)) rfl (gl_Tone T) (bi_Tone_init T) .nil pass0 (pa_cons (pe_op G.op_addG (pe_fld (pe_fld (pv 0) rfl) rfl) (pe_fld (pe_fld (pv 0) rfl) rfl)) (pa_cons (pe_un G.un_negG (pe_fld (pe_fld (pv 0) rfl) rfl)) pa_nil))) (pa_cons (G.pe_methP0 (pe_fld (pv 0) rfl) (ok_Term_mirrored T) (hr.mono (by first | decide | omega)) (bi_Term_mirrored T) .nil pass0 ) pa_nil))))), ?_⟩
    walk_at "start"
    walk_at "gob"
    exact q _ _ (by walk_at "fr") (by walk_at "kp") (by assumption)
theorem ok_Height_eq (T : Tx K mg) : G.FnG P w K mg base CX0 5 (a_Height_eq K) (G.fdOf K (a_Height_eq K)) ["self", "other"] (sp_H_eq K) := by
  refine G.ok_of (F_Height_eq T) sc_Height_eq (fun vs H Q E h => ?_) (fun cdv A outer s H vs Q E hr h => ?_)
  · obtain ⟨x, o, f, mv, z, v, rfl, _⟩ := h
    rfl
  · obtain ⟨x, o, f, mv, z, v, rfl, hx, h⟩ := h
    rcases h with ⟨y, u, g, mv', z', rfl, hy, q⟩ | ⟨tv, ty, kt, q⟩
    · refine ⟨_, (pss_one (ps_ret (pe_and (pe_callB G.call_isiG (by rfl) (fr_isinstance T) boot_isinstance (pa_cons (pv 1) (pa_cons (G.pe_cl rfl (gl_Height T)) pa_nil))) (pe_and (pe_cmpR (G.opOr (G.op_eqQ (ok_Tone_eq T) (hr.mono (by decide)) (bi_Tone_eq T) pass0) (G.op_eqQ (ok_Term_eq T) (hr.mono (by decide)) (bi_Term_eq T) pass0)) (pe_fld (pv 0) rfl) (pe_fld (pv 1) rfl) (nomark _)) (pe_one (pe_cmpR (G.opOr (G.op_eqQ (ok_Tone_eq T) (hr.mono (by decide)) (bi_Tone_eq T) pass0) (G.op_eqQ (ok_Term_eq T) (hr.mono (by decide)) (bi_Term_eq T) pass0)) (pe_fld (pv 0) rfl) (pe_fld (pv 1) rfl) (nomark _))))))), ?_⟩
      walk_at "start"
      walk_at "gob"
      · rename_i hc _ _ _ _
        rw [show decide (o = u ∧ f = g ∧ mv = mv' ∧ z = z') = decide (mv = mv' ∧ z = z') by simp [hc]] at q
        exact q _ (by assumption)
      · rename_i hc
        rw [show decide (o = u ∧ f = g ∧ mv = mv' ∧ z = z') = false by
          rw [decide_eq_false_iff_not]
          exact fun h => hc ⟨h.1, h.2.1⟩] at q
        exact q _ (by assumption)
    · refine ⟨_, (pss_one (ps_ret (pe_and (pe_callB G.call_isiG (by rfl) (fr_isinstance T) boot_isinstance (pa_cons (pv 1) (pa_cons (G.pe_cl rfl (gl_Height T)) pa_nil))) (pe_and (pe_cmpR (G.opOr (G.op_eqQ (ok_Tone_eq T) (hr.mono (by decide)) (bi_Tone_eq T) pass0) (G.op_eqQ (ok_Term_eq T) (hr.mono (by decide)) (bi_Term_eq T) pass0)) (pe_fld (pv 0) rfl) (pe_fld (pv 1) rfl) (nomark _)) (pe_one (pe_cmpR (G.opOr (G.op_eqQ (ok_Tone_eq T) (hr.mono (by decide)) (bi_Tone_eq T) pass0) (G.op_eqQ (ok_Term_eq T) (hr.mono (by decide)) (bi_Term_eq T) pass0)) (pe_fld (pv 0) rfl) (pe_fld (pv 1) rfl) (nomark _))))))), ?_⟩
      walk_at "start"
      walk_at "gob"
      exact q
end
end Lw

namespace Lw
open PySem PySem.Spec PyProof.Rows L2
/-! ### what the law's own defs promise -/
section
variable {P : Program} {w : World} {K : PySem.W.Frag} {mg : Str → Option Value} {base : Heap} {H H' : Hp} {Q : VK} {E : XK} {p q l r x y u : Addr} {a b c d t m i j z z' k : Int} {v : V} {n n' : Nat} {xs : List V} {mv mv' : Bool}
/-- a fraction in lowest terms, between 0 and 1 -/
structure FrOk (t b : Int) : Prop where
  h0 : 0 < t
  h1 : t < b
  cop : Int.gcd t b = 1
  le : b ≤ 1000000000000000000000000000000000000000
theorem FrOk.bb (h : FrOk t b) : G.Bd 133 b := (G.Bd.of_le (G.Bd.lit 1000000000000000000000000000000000000000) (by have := h.h0; have := h.h1; have := h.le; omega)).mono (by decide +kernel)
theorem FrOk.bt (h : FrOk t b) : G.Bd 133 t := (G.Bd.of_le (G.Bd.lit 1000000000000000000000000000000000000000) (by have := h.h0; have := h.h1; have := h.le; omega)).mono (by decide +kernel)
def sp_fraction : Sp := fun vs H Q _ => ∃ p l n, vs = [.ref p] ∧ PenL H p l n ∧ n < 900000 ∧ ∀ x H' t b, G.Md p H H' → PenL H' p l (n + 1) → H' x = some (.tup [.int t, .int b]) → FrOk t b → Q (.ref x) H'
def sp_number : Sp := fun vs H Q _ => ∃ p l n, vs = [.ref p] ∧ PenL H p l n ∧ n < 900000 ∧ ∀ i H', G.Md p H H' → PenL H' p l (n + 3) → G.Bd 140 i → Q (.int i) H'
def sp_trm : Sp := fun vs H Q _ => ∃ p l n m, vs = [.ref p, .int m] ∧ PenL H p l n ∧ n < 900000 ∧ 0 < m ∧ m ≤ 12 ∧ ∀ x H' mv z, G.Md p H H' → PenL H' p l (n + 2) → H' x = some (.tup [.str (ltr mv), .int z]) → -m ≤ z → z ≤ m → Q (.ref x) H'
def sp_real (K : PySem.W.Frag) : Sp := fun vs H Q _ => ∃ q mv z, vs = [.ref q] ∧ H q = some (.tup [.str (ltr mv), .int z]) ∧ -12 ≤ z ∧ z ≤ 12 ∧ ∀ x H', H x = none → G.Kp H H' → IsTm K H' x mv z → Q (.ref x) H'
def sp_key : Sp := fun vs H Q _ => ∃ q mv z n t b, vs = [.ref q, .int n, .int t, .int b] ∧ H q = some (.tup [.str (ltr mv), .int z]) ∧ 0 < b ∧ G.Bd 200 n ∧ G.Bd 200 z ∧ G.Bd 200 t ∧ Q (.int ((n * mvi mv + z) * t % b)) H
def sp_law (K : PySem.W.Frag) : Sp := fun vs H Q _ => ∃ (x : Addr) (ns : List Int), vs = [.ref x] ∧ SqL K H x (ns.map V.int) ∧ ns.length ≤ 63 ∧ ∀ H', Q (.bl true) H'
/-! rows -/
theorem fraction_p (hp : PenL H p l n) (hn : n < 900000) (q : ∀ x H' t b, G.Md p H H' → PenL H' p l (n + 1) → H' x = some (.tup [.int t, .int b]) → 0 < t → t < b → Int.gcd t b = 1 → G.Bd 133 t → G.Bd 133 b → Q (.ref x) H') : sp_fraction [.ref p] H Q E := ⟨p, l, n, rfl, hp, hn, fun x H' t b h1 h2 h3 f => q x H' t b h1 h2 h3 f.h0 f.h1 f.cop f.bt f.bb⟩
theorem bd_mod {m : Nat} {x y : Int} (h : 0 < y) (k : G.Bd m y) : G.Bd m (x % y) := G.Bd.of_le k (by
  have := Int.emod_nonneg x (show y ≠ 0 by omega)
  have := Int.emod_lt_of_pos x h
  omega)
theorem bd_w {z : Int} (h1 : -1000 ≤ z) (h2 : z ≤ 1000) : G.Bd 200 z := (G.Bd.of_le (G.Bd.lit 1000) (by omega)).mono (by decide +kernel)
theorem number_p (hp : PenL H p l n) (hn : n < 900000) (q : ∀ i H', G.Md p H H' → PenL H' p l (n + 3) → G.Bd 140 i → Q (.int i) H') : sp_number [.ref p] H Q E := ⟨p, l, n, rfl, hp, hn, q⟩
theorem trm_p (hp : PenL H p l n) (hn : n < 900000) (h1 : 0 < m) (h2 : m ≤ 12) (q : ∀ x H' mv z, G.Md p H H' → PenL H' p l (n + 2) → H' x = some (.tup [.str (ltr mv), .int z]) → -m ≤ z → z ≤ m → Q (.ref x) H') : sp_trm [.ref p, .int m] H Q E := ⟨p, l, n, m, rfl, hp, hn, h1, h2, q⟩
theorem real_t (h : H u = some (.tup [.str (ltr mv), .int z])) (h1 : -12 ≤ z) (h2 : z ≤ 12) (q : ∀ x H', H x = none → G.Kp H H' → IsTm K H' x mv z → Q (.ref x) H') : sp_real K [.ref u] H Q E := ⟨u, mv, z, rfl, h, h1, h2, q⟩
theorem key_t (h : H u = some (.tup [.str (ltr mv), .int z])) (h0 : 0 < b) (h1 : G.Bd 200 i) (h2 : G.Bd 200 z) (h3 : G.Bd 200 t) (q : Q (.int ((i * mvi mv + z) * t % b)) H) : sp_key [.ref u, .int i, .int t, .int b] H Q E := ⟨u, mv, z, i, t, b, rfl, h, h0, h1, h2, h3, q⟩
def sp_tone : Sp := fun vs H Q _ => ∃ p l n m, vs = [.ref p, .int m] ∧ PenL H p l n ∧ n < 900000 ∧ 0 < m ∧ m ≤ 20 ∧ ∀ x H' o f, G.Md p H H' → PenL H' p l (n + 2) → H' x = some (.tup [.int o, .int f]) → -m ≤ o → o ≤ m → -m ≤ f → f ≤ m → Q (.ref x) H'
def sp_realH (K : PySem.W.Frag) : Sp := fun vs H Q _ => ∃ x y o f mv z, vs = [.ref x, .ref y] ∧ H x = some (.tup [.int o, .int f]) ∧ H y = some (.tup [.str (ltr mv), .int z]) ∧ -20 ≤ o ∧ o ≤ 20 ∧ -20 ≤ f ∧ f ≤ 20 ∧ -12 ≤ z ∧ z ≤ 12 ∧ ∀ r H', H r = none → G.Kp H H' → IsH K H' r o f mv z → Q (.ref r) H'
/-! the letter of a term -/
theorem eq_ltr (q : Q (.bl mv) H) : G.rEqG K (.str (ltr mv)) (.str "n") H Q := G.eq_ss (by rw [show decide (ltr mv = "n") = mv by cases mv <;> decide +kernel]; exact q)
theorem int_mv (q : Q (.int (mvi mv)) H) : G.rIntG [.bl mv] H Q := G.int_b q
theorem ltr_ok : ∀ mv : Bool, (PyData.str (ltr mv)).canLay0 = true
  | true => by decide +kernel
  | false => by decide +kernel
theorem ltr_eq : ∀ mv mv' : Bool, decide (ltr mv = ltr mv') = decide (mv = mv') := by
  intro mv mv'
  cases mv <;> cases mv' <;> decide +kernel
theorem ltr_and : decide (ltr mv = ltr mv' ∧ z = z') = decide (mv = mv' ∧ z = z') := by
  rw [Bool.decide_and, Bool.decide_and, ltr_eq]
theorem eq_trm (h1 : SqT K H x [.str (ltr mv), .int z]) (h2 : SqT K H y [.str (ltr mv'), .int z']) (q : Q (.bl (decide (mv = mv' ∧ z = z'))) H) : G.rEqG K (.ref x) (.ref y) H Q := G.eq_tsi (ltr_ok _) (ltr_ok _) h1 h2 (by rw [ltr_and]; exact q)
theorem ne_trm (h1 : SqT K H x [.str (ltr mv), .int z]) (h2 : SqT K H y [.str (ltr mv'), .int z']) (q : Q (.bl (!decide (mv = mv' ∧ z = z'))) H) : G.rNeG K (.ref x) (.ref y) H Q := G.ne_tsi (ltr_ok _) (ltr_ok _) h1 h2 (by rw [ltr_and]; exact q)
/-! the same, asked whether it is otherwise -/
theorem ne_mmS (T : Tx K mg) (h : IsTm K H x mv z) (k : IsTm K H y mv z') (e : z = z') (q : Q (.bl false) H) : G.rNeP K (a_Term_eq K) (sp_Tmeq K) E (.ref x) (.ref y) H Q := ne_mm T h k (by simpa [e] using q)
theorem ne_LL (T : Tx K mg) {t' : Int} {r' s' : Int} (h : IsR K H u i j) (k : IsR K H x r' s') (l1 : Low t b i j) (l2 : Low t' b r' s') (hb : b ≠ 0) (e : t = t') (q : ∀ H', G.Kp H H' → Q (.bl false) H') : G.rNeO K (He.ga K "Ratio") (sp_Req K) E (.ref u) (.ref x) H Q := by
  subst e
  obtain ⟨rfl, rfl⟩ := l1.uniq hb l2
  exact ne_RR T h k fun H' z => by simpa using q H' z
theorem mirror_eq (m : Int) : ((0 - i) * m + -z) * (b - t) % b = (i * m + z) * t % b := by
  have e : ((0 - i) * m + -z) * (b - t) = (i * m + z) * t + b * (-(i * m + z)) := by
    have h1 : (0 - i) * m + -z = -(i * m + z) := by rw [Int.zero_sub, Int.neg_mul, Int.neg_add]
    rw [h1, Int.mul_sub, Int.neg_mul, Int.neg_mul, Int.mul_neg, Int.mul_comm b]
    omega
  rw [e, Int.add_mul_emod_self_left]
theorem shift_eq (h : mv = true) : ((i + b) * mvi mv + z) * t % b = (i * mvi mv + z) * t % b := by
  subst h
  have e : ((i + b) * mvi true + z) * t = (i * mvi true + z) * t + b * t := by
    show ((i + b) * 1 + z) * t = (i * 1 + z) * t + b * t
    rw [← Int.add_mul]
    congr 1
    omega
  rw [e, Int.add_mul_emod_self_left]
theorem bd_12 (h1 : -12 ≤ z) (h2 : z ≤ 12) : G.Bd 10 z := (G.Bd.of_le (G.Bd.lit 12) (by omega)).mono (by decide +kernel)
theorem tone_p (hp : PenL H p l n) (hn : n < 900000) (h1 : 0 < m) (h2 : m ≤ 20) (q : ∀ x H' o f, G.Md p H H' → PenL H' p l (n + 2) → H' x = some (.tup [.int o, .int f]) → -m ≤ o → o ≤ m → -m ≤ f → f ≤ m → Q (.ref x) H') : sp_tone [.ref p, .int m] H Q E := ⟨p, l, n, m, rfl, hp, hn, h1, h2, q⟩
theorem realH_t {o f : Int} (hx : H x = some (.tup [.int o, .int f])) (hy : H y = some (.tup [.str (ltr mv), .int z])) (h1 : -20 ≤ o) (h2 : o ≤ 20) (h3 : -20 ≤ f) (h4 : f ≤ 20) (h5 : -12 ≤ z) (h6 : z ≤ 12) (q : ∀ r H', H r = none → G.Kp H H' → IsH K H' r o f mv z → Q (.ref r) H') : sp_realH K [.ref x, .ref y] H Q E :=
  ⟨x, y, o, f, mv, z, rfl, hx, hy, h1, h2, h3, h4, h5, h6, q⟩
end
end Lw

namespace Lw
open PySem PySem.Spec PyProof.Rows L2
section
variable {P : Program} {w : World} {K : PySem.W.Frag} {mg : Str → Option Value} {base : Heap} {H H' : Hp} {Q : VK} {E : XK} {a x y : Addr} {o f u g z z' i n t b c d c' d' : Int} {v : V} {mv mv' : Bool} {R : Prop}
theorem lh0 {x y : V} {m : Str} (h1 : (m == ("tone" : Str)) = false) (h2 : (m == ("term" : Str)) = false) : List.lookup m ([("tone", x), ("term", y)] : List (Str × V)) = none := by simp [List.lookup, h1, h2]
theorem rc_Hpitch (T : Tx K mg) (h : IsH K H x o f mv z) (q : R) : G.RecvP K "pitch" (a_Height_pitch K) (.ref x) H R := let ⟨_, _, _, e, _⟩ := h; ⟨x, _, _, _, rfl, e, cl_Height T, me_Height_pitch T, lh0 (by decide +kernel) (by decide +kernel), q⟩
theorem rc_Hmoved (T : Tx K mg) (h : IsH K H x o f mv z) (q : R) : G.RecvP K "moved" (a_Height_moved K) (.ref x) H R := let ⟨_, _, _, e, _⟩ := h; ⟨x, _, _, _, rfl, e, cl_Height T, me_Height_moved T, lh0 (by decide +kernel) (by decide +kernel), q⟩
theorem rc_Hmir (T : Tx K mg) (h : IsH K H x o f mv z) (q : R) : G.RecvP K "mirrored" (a_Height_mirrored K) (.ref x) H R := let ⟨_, _, _, e, _⟩ := h; ⟨x, _, _, _, rfl, e, cl_Height T, me_Height_mirrored T, lh0 (by decide +kernel) (by decide +kernel), q⟩
theorem Hpitch_T (h : IsH K H x o f mv z) (k : IsR K H a t b) (h0 : 0 < t) (h1 : t < b) (b1 : G.Bd 280 t) (b2 : G.Bd 140 b) (b3 : G.Bd 20 o) (b4 : G.Bd 20 f) (b5 : G.Bd 300 n) (b6 : G.Bd 10 z)
    (q : ∀ r H' c d, H r = none → G.Kp H H' → IsR K H' r c d → Val c d ((n * mvi mv + z) * t % b + (f * t + o * b)) b → Q (.ref r) H') : sp_H_pitch K [.ref x, .int n, .ref a] H Q E := ⟨x, n, a, o, f, mv, z, t, b, rfl, h, k, h0, h1, b1, b2, b3, b4, b5, b6, q⟩
theorem Hmoved_T (h : IsH K H x o f mv z) (h1 : -20 ≤ o) (h2 : o ≤ 20) (h3 : -20 ≤ f) (h4 : f ≤ 20) (h5 : -12 ≤ z + i) (h6 : z + i ≤ 12) (q : ∀ r H', H r = none → G.Kp H H' → IsH K H' r o f mv (z + i) → Q (.ref r) H') : sp_H_moved K [.ref x, .int i] H Q E := ⟨x, o, f, mv, z, i, rfl, h, h1, h2, h3, h4, h5, h6, q⟩
theorem Hmir_T (h : IsH K H x o f mv z) (h1 : -20 ≤ o + f) (h2 : o + f ≤ 20) (h3 : -20 ≤ f) (h4 : f ≤ 20) (h5 : -12 ≤ z) (h6 : z ≤ 12) (q : ∀ r H', H r = none → G.Kp H H' → IsH K H' r (o + f) (-f) mv (-z) → Q (.ref r) H') : sp_H_mirrored K [.ref x] H Q E := ⟨x, o, f, mv, z, rfl, h, h1, h2, h3, h4, h5, h6, q⟩
theorem eq_HH (T : Tx K mg) (h : IsH K H x o f mv z) (k : IsH K H y u g mv' z') (q : ∀ H', G.Kp H H' → Q (.bl (decide (o = u ∧ f = g ∧ mv = mv' ∧ z = z'))) H') : G.rCmpP K (cmpInfo .Eq).2.1 (a_Height_eq K) (sp_H_eq K) E (.ref x) (.ref y) H Q :=
  let ⟨dx, _, _, e, _⟩ := id h
  ⟨x, _, dx, _, _, rfl, e, ow_Height_eq T, k.ty T, nf_Height_Height T, x, o, f, mv, z, _, rfl, h, .inl ⟨y, u, g, mv', z', rfl, k, q⟩⟩
theorem ne_HH (T : Tx K mg) (h : IsH K H x o f mv z) (k : IsH K H y u g mv' z') (q : ∀ H', G.Kp H H' → Q (.bl (!decide (o = u ∧ f = g ∧ mv = mv' ∧ z = z'))) H') : G.rNeP K (a_Height_eq K) (sp_H_eq K) E (.ref x) (.ref y) H Q :=
  let ⟨dx, _, _, e, _⟩ := id h
  ⟨x, _, dx, _, _, rfl, e, ne_Height T, k.ty T, nf_Height_Height T, x, o, f, mv, z, _, rfl, h, .inl ⟨y, u, g, mv', z', rfl, k, fun H' kk => ⟨_, rfl, q H' kk⟩⟩⟩
/-- two Ratios of one value -/
theorem ne_VV (T : Tx K mg) {e : Int} (h : IsR K H x c d) (k : IsR K H y c' d') (v1 : Val c d n b) (v2 : Val c' d' e b) (hb : b ≠ 0) (en : n = e) (q : ∀ H', G.Kp H H' → Q (.bl false) H') : G.rNeP K (a_Ratio_eq K) (sp_Req K) E (.ref x) (.ref y) H Q := by
  subst en
  obtain ⟨rfl, rfl⟩ := val_uniq hb h.pos h.cop k.pos k.cop v1 v2
  obtain ⟨dx, e1⟩ := h.at_
  exact ⟨x, _, dx, _, _, rfl, e1, ne_Ratio T, k.ty T, nf_Ratio_Ratio T, x, c, d, _, c, d, rfl, h, .of_r k, fun H' z => ⟨_, rfl, by simpa using q H' z⟩⟩
theorem ne_VL (T : Tx K mg) {e : Int} (h : IsR K H x c d) (k : IsR K H y c' d') (v1 : Val c d n b) (l2 : Low e b c' d') (hb : b ≠ 0) (en : n = e) (q : ∀ H', G.Kp H H' → Q (.bl false) H') : G.rNeP K (a_Ratio_eq K) (sp_Req K) E (.ref x) (.ref y) H Q := ne_VV T h k v1 l2.val hb en q
theorem due_1 (k : Int) : k + (f * t + o * b) = o * b + f * t + k := by omega
theorem due_2 (m : Int) : ((0 - n) * m + -z) * (b - t) % b + (-f * (b - t) + (o + f) * b) = o * b + f * t + (n * m + z) * t % b := by
  rw [mirror_eq]
  have e : -f * (b - t) + (o + f) * b = o * b + f * t := by
    rw [Int.mul_sub, Int.add_mul, Int.neg_mul, Int.neg_mul]
    omega
  rw [e]
  omega
end
end Lw

namespace Lw
open PySem PySem.Spec PyProof.Rows L2
section
variable {P : Program} {w : World} {K : PySem.W.Frag} {mg : Str → Option Value} {base : Heap} {H H' : Hp} {Q : VK} {E : XK} {p q l r x y u s : Addr} {o f g h z z' i n t b c d c' d' : Int} {v : V} {m k : Nat} {mv mv' : Bool} {R : Prop}
def sp_keptr (K : PySem.W.Frag) : Sp := fun vs H Q _ => ∃ p l n x y q o f mv z, vs = [.ref p, .ref x, .ref y, .ref q] ∧ PenL H p l n ∧ n < 800000 ∧ IsH K H x o f mv z ∧ H y = some (.tup [.int o, .int f]) ∧ H q = some (.tup [.str (ltr mv), .int z]) ∧ -20 ≤ o ∧ o ≤ 20 ∧ -20 ≤ f ∧ f ≤ 20 ∧ -12 ≤ z ∧ z ≤ 12 ∧ ∀ H', G.Md p H H' → PenL H' p l (n + 1) → Q (.bl true) H'
def sp_pitchr (K : PySem.W.Frag) : Sp := fun vs H Q _ => ∃ p l n x y q o f mv z, vs = [.ref p, .ref x, .ref y, .ref q] ∧ PenL H p l n ∧ n < 800000 ∧ IsH K H x o f mv z ∧ H y = some (.tup [.int o, .int f]) ∧ H q = some (.tup [.str (ltr mv), .int z]) ∧ -20 ≤ o ∧ o ≤ 20 ∧ -20 ≤ f ∧ f ≤ 20 ∧ -12 ≤ z ∧ z ≤ 12 ∧ ∀ H', G.Md p H H' → PenL H' p l (n + 20) → Q (.bl true) H'
theorem keptr_t (hp : PenL H p l m) (hn : m < 800000) (h : IsH K H x o f mv z) (k1 : H y = some (.tup [.int o, .int f])) (k2 : H q = some (.tup [.str (ltr mv), .int z])) (h1 : -20 ≤ o) (h2 : o ≤ 20) (h3 : -20 ≤ f) (h4 : f ≤ 20) (h5 : -12 ≤ z) (h6 : z ≤ 12) (r : ∀ H', G.Md p H H' → PenL H' p l (m + 1) → Q (.bl true) H') : sp_keptr K [.ref p, .ref x, .ref y, .ref q] H Q E :=
  ⟨p, l, m, x, y, q, o, f, mv, z, rfl, hp, hn, h, k1, k2, h1, h2, h3, h4, h5, h6, r⟩
theorem pitchr_t (hp : PenL H p l m) (hn : m < 800000) (h : IsH K H x o f mv z) (k1 : H y = some (.tup [.int o, .int f])) (k2 : H q = some (.tup [.str (ltr mv), .int z])) (h1 : -20 ≤ o) (h2 : o ≤ 20) (h3 : -20 ≤ f) (h4 : f ≤ 20) (h5 : -12 ≤ z) (h6 : z ≤ 12) (r : ∀ H', G.Md p H H' → PenL H' p l (m + 20) → Q (.bl true) H') : sp_pitchr K [.ref p, .ref x, .ref y, .ref q] H Q E :=
  ⟨p, l, m, x, y, q, o, f, mv, z, rfl, hp, hn, h, k1, k2, h1, h2, h3, h4, h5, h6, r⟩
/-! the same, and asked whether it is otherwise -/
theorem ne_TTs (T : Tx K mg) (h1 : IsT K H x o f) (h2 : IsT K H y o f) (q : ∀ H', G.Kp H H' → Q (.bl false) H') : G.rNeP K (a_Tone_eq K) (sp_Teq K) E (.ref x) (.ref y) H Q := ne_TT T h1 h2 fun H' k => by simpa using q H' k
theorem eq_TTs (T : Tx K mg) (h1 : IsT K H x o f) (h2 : IsT K H y o f) (q : ∀ H', G.Kp H H' → Q (.bl true) H') : G.rCmpP K (cmpInfo .Eq).2.1 (a_Tone_eq K) (sp_Teq K) E (.ref x) (.ref y) H Q := eq_TT T h1 h2 fun H' k => by simpa using q H' k
theorem eq_mmS (T : Tx K mg) (h : IsTm K H x mv z) (k : IsTm K H y mv z) (q : Q (.bl true) H) : G.rCmpP K (cmpInfo .Eq).2.1 (a_Term_eq K) (sp_Tmeq K) E (.ref x) (.ref y) H Q := eq_mm T h k (by simpa using q)
theorem ne_HHs (T : Tx K mg) {o' f' : Int} (h : IsH K H x o f mv z) (k : IsH K H y o' f' mv z') (e1 : o = o') (e2 : f = f') (e3 : z = z') (q : ∀ H', G.Kp H H' → Q (.bl false) H') : G.rNeP K (a_Height_eq K) (sp_H_eq K) E (.ref x) (.ref y) H Q := by
  subst e1 e2 e3
  exact ne_HH T h k fun H' k => by simpa using q H' k
/-- what is no height -/
def OddH (K : PySem.W.Frag) (H : Hp) (v : V) : Prop := v = .non ∨ (∃ i, v = .int i) ∨ (∃ p xs, v = .ref p ∧ H p = some (.tup xs)) ∨ (∃ p o f, v = .ref p ∧ IsT K H p o f) ∨ ∃ p mv z, v = .ref p ∧ IsTm K H p mv z
theorem OddH.kp (k : G.Kp H H') (h : OddH K H v) : OddH K H' v := by
  rcases h with h | h | ⟨p, xs, e, h⟩ | ⟨p, o, f, e, h⟩ | ⟨p, o, f, e, h⟩
  · exact .inl h
  · exact .inr (.inl h)
  · exact .inr (.inr (.inl ⟨p, xs, e, k _ _ h⟩))
  · exact .inr (.inr (.inr (.inl ⟨p, o, f, e, h.kp k⟩)))
  · exact .inr (.inr (.inr (.inr ⟨p, o, f, e, h.kp k⟩)))
theorem OddH.ty (T : Tx K mg) (h : OddH K H v) : ∃ tv, TyX K H v tv ∧ PySem.W.kitOne K tv (.ref (He.ga K "Height")) = some false ∧ PySem.W.notFirst K (He.ga K "Height") tv = true := by
  rcases h with rfl | ⟨i, rfl⟩ | ⟨p, xs, rfl, h⟩ | ⟨p, o, f, rfl, h⟩ | ⟨p, mv, z, rfl, h⟩
  · exact ⟨_, .base .non, ki_NoneType_Height T, nf_Height_NoneType T⟩
  · exact ⟨_, .base (.int _), ki_int_Height T, nf_Height_int T⟩
  · exact ⟨_, .base (.tup h), ki_tuple_Height T, nf_Height_tuple T⟩
  · exact ⟨_, h.ty T, ki_Tone_Height T, nf_Height_Tone T⟩
  · cases mv
    · exact ⟨_, h.ty T, ki_Note_Height T, nf_Height_Note T⟩
    · exact ⟨_, h.ty T, ki_Moving_Height T, nf_Height_Moving T⟩
theorem eq_Ho (T : Tx K mg) (h : IsH K H x o f mv z) (k : OddH K H v) (q : Q (.bl false) H) : G.rCmpP K (cmpInfo .Eq).2.1 (a_Height_eq K) (sp_H_eq K) E (.ref x) v H Q :=
  let ⟨dx, _, _, e, _⟩ := id h
  let ⟨tv, ty, kt, nf⟩ := k.ty T
  ⟨x, _, dx, _, tv, rfl, e, ow_Height_eq T, ty, nf, x, o, f, mv, z, v, rfl, h, .inr ⟨tv, ty, kt, q⟩⟩
/-- a Ratio and a whole number of its value -/
theorem eq_Ri (T : Tx K mg) (h : IsR K H x c d) (v1 : Val c d n b) (hb : b ≠ 0) (en : n = i * b) (hi : G.Bd 200 i) (q : ∀ H', G.Kp H H' → Q (.bl true) H') : G.rCmpP K (cmpInfo .Eq).2.1 (a_Ratio_eq K) (sp_Req K) E (.ref x) (.int i) H Q := by
  subst en
  obtain ⟨rfl, rfl⟩ := val_uniq hb h.pos h.cop (by decide) (Int.gcd_one_right _) v1 (show Val i 1 (i * b) b by unfold Val; omega)
  obtain ⟨dx, e1⟩ := h.at_
  exact ⟨x, _, dx, _, _, rfl, e1, ow_Ratio_eq T, .base (.int _), nf_Ratio_int T, x, _, _, _, _, _, rfl, h, .inl ⟨rfl, rfl, hi.mono (by decide)⟩, fun H' k => by simpa using q H' k⟩
theorem pick_220 (hp : PenL H p l m) (hn : m < 900000) (hx : H s = some (.lst [.int 2, .int 20])) (hne : s ≠ p) (r : ∀ i H', 2 ≤ i → i ≤ 20 → G.Md p H H' → PenL H' p l (m + 1) → Q (.int i) H') : sp_pick [.ref p, .ref s] H Q E :=
  pick_p hp (by omega) hx hne (by simp) (by simp) fun v H' hv k' p' => by
    simp only [List.mem_cons, List.not_mem_nil, or_false] at hv
    rcases hv with rfl | rfl
    · exact r _ _ (by omega) (by omega) k' p'
    · exact r _ _ (by omega) (by omega) k' p'
/-- int(f == 0) -/
theorem int_f0 (q : ∀ k : Int, (f = 0 → k = 1) → (f ≠ 0 → k = 0) → Q (.int k) H) : G.rIntG [.bl (decide (f = 0))] H Q := G.int_b (q _ (fun e => by simp [e]) (fun e => by simp [e]))
theorem eq_HHn (T : Tx K mg) {f' : Int} (h : IsH K H x o f mv z) (k : IsH K H y o f' mv z) (e : f ≠ f') (q : ∀ H', G.Kp H H' → Q (.bl false) H') : G.rCmpP K (cmpInfo .Eq).2.1 (a_Height_eq K) (sp_H_eq K) E (.ref x) (.ref y) H Q :=
  eq_HH T h k fun H' k => by simpa [e] using q H' k
end
end Lw

local macro_rules | `(tactic| walk_at "gx") => `(tactic| first
  | with_reducible refine Lw.eq_ltr ?_
  | with_reducible refine Lw.int_mv ?_
  | ((with_reducible refine Lw.eq_trm (mv := ?z0) (z := ?z1) (mv' := ?z2) (z' := ?z3) ?h1 ?h2 ?_); (case h1 => walk_at "hp"); (case h2 => walk_at "hp"))
  | ((with_reducible refine Lw.ne_trm (mv := ?z0) (z := ?z1) (mv' := ?z2) (z' := ?z3) ?h1 ?h2 ?_); (case h1 => walk_at "hp"); (case h2 => walk_at "hp"))
  | ((with_reducible refine Lw.ne_sh ?h1 ?_); (case h1 => first | rfl | exact Int.add_comm _ _ | omega))
  | with_reducible refine Lw.ne_shl ?_
  | ((with_reducible refine Lw.ne_mmS (mv := ?z0) (z := ?z1) (z' := ?z2) (by assumption) ?h1 ?h2 ?h3 ?_); (case h1 => walk_at "hp"); (case h2 => walk_at "hp"); (case h3 => first | rfl | omega))
  | ((with_reducible refine Lw.fraction_p (l := ?z0) (n := ?z1) ?h1 ?h2 ?_); (case h1 => walk_at "hp"); (case h2 => omega); intro _ _ _ _ _ _ _ _ _ _ _ _)
  | ((with_reducible refine Lw.number_p (l := ?z0) (n := ?z1) ?h1 ?h2 ?_); (case h1 => walk_at "hp"); (case h2 => omega); intro _ _ _ _ _)
  | ((with_reducible refine Lw.trm_p (l := ?z0) (n := ?z1) ?h1 ?h2 ?h3 ?h4 ?_); (case h1 => walk_at "hp"); (case h2 => omega); (case h3 => omega); (case h4 => omega); intro _ _ _ _ _ _ _ _ _)
  | ((with_reducible refine Lw.real_t (mv := ?z0) (z := ?z1) ?h1 ?h2 ?h3 ?_); (case h1 => walk_at "hp"); (case h2 => omega); (case h3 => omega); intro _ _ _ _ _)
  | ((with_reducible refine Lw.key_t (mv := ?z0) (z := ?z1) ?h1 ?h2 ?h3 ?h4 ?h5 ?_); (case h1 => walk_at "hp"); (case h2 => omega); (case h3 => walk_at "bdw"); (case h4 => walk_at "bdw"); (case h5 => walk_at "bdw"))
  | ((with_reducible refine Lw.told_t (mv := ?z0) (z := ?z1) (z' := ?z2) ?h1 ?h2 ?h3 ?h4 ?_); (case h1 => walk_at "hp"); (case h3 => walk_at "hp"); (case h2 => first | rfl | omega); (case h4 => first | exact Lw.bd_w (by omega) (by omega) | walk_at "bdw"); intro _ _)
  | ((with_reducible refine Lw.stands_t (l := ?z0) (n := ?z1) (mv := ?z2) (z := ?z3) ?h1 ?h2 ?h3 ?h4 ?h5 ?h6 ?_); (case h1 => walk_at "hp"); (case h2 => omega); (case h3 => walk_at "hp"); (case h4 => walk_at "hp"); (case h5 => omega); (case h6 => omega); intro _ _ _)
  | ((with_reducible refine Lw.movedr_t (l := ?z0) (n := ?z1) (mv := ?z2) (z := ?z3) ?h1 ?h2 ?h3 ?h4 ?h5 ?h6 ?_); (case h1 => walk_at "hp"); (case h2 => omega); (case h3 => walk_at "hp"); (case h4 => walk_at "hp"); (case h5 => omega); (case h6 => omega); intro _ _ _))
local macro_rules | `(tactic| walk_at "gx") => `(tactic| ((with_reducible refine Lw.ne_LL (t := ?z0) (b := ?z1) (i := ?z2) (j := ?z3) (t' := ?z4) (r' := ?z5) (s' := ?z6) (by assumption) ?h1 ?h2 ?h3 ?h4 ?h5 ?h6 ?_); (case h1 => walk_at "hp"); (case h2 => walk_at "hp"); (case h3 => assumption); (case h4 => assumption); (case h5 => omega); (case h6 => first | rfl | exact Lw.mirror_eq _ | exact Lw.shift_eq (by assumption)); intro _ _))
local macro_rules | `(tactic| walk_at "bd1") => `(tactic| ((with_reducible apply Lw.bd_mod); omega; walk_at "bd1"))
local macro_rules | `(tactic| walk_at "gx") => `(tactic| first
  | with_reducible refine G.str_i (m := 200) (Lw.bd_w (by omega) (by omega)) (by decide) ?_
  | with_reducible refine G.st_lcF ?_)

local macro_rules | `(tactic| walk_at "gx") => `(tactic| first
  | ((with_reducible refine Lw.rc_Hpitch (o := ?z0) (f := ?z1) (mv := ?z2) (z := ?z3) (by assumption) ?h ?_); (case h => walk_at "hp"))
  | ((with_reducible refine Lw.rc_Hmoved (o := ?z0) (f := ?z1) (mv := ?z2) (z := ?z3) (by assumption) ?h ?_); (case h => walk_at "hp"))
  | ((with_reducible refine Lw.rc_Hmir (o := ?z0) (f := ?z1) (mv := ?z2) (z := ?z3) (by assumption) ?h ?_); (case h => walk_at "hp"))
  | ((with_reducible refine Lw.Hpitch_T (o := ?z0) (f := ?z1) (mv := ?z2) (z := ?z3) (t := ?z4) (b := ?z5) ?h ?k ?h0 ?h1 ?b1 ?b2 ?b3 ?b4 ?b5 ?b6 ?_); (case h => walk_at "hp"); (case k => walk_at "hp"); (case h0 => first | assumption | omega); (case h1 => first | assumption | omega); (case b1 => walk_at "bdw"); (case b2 => walk_at "bdw"); (case b3 => walk_at "bdw"); (case b4 => walk_at "bdw"); (case b5 => walk_at "bdw"); (case b6 => walk_at "bdw"); intro _ _ _ _ _ _ _ _)
  | ((with_reducible refine Lw.Hmoved_T (o := ?z0) (f := ?z1) (mv := ?z2) (z := ?z3) ?h ?h1 ?h2 ?h3 ?h4 ?h5 ?h6 ?_); (case h => walk_at "hp"); (case h1 => omega); (case h2 => omega); (case h3 => omega); (case h4 => omega); (case h5 => omega); (case h6 => omega); intro _ _ _ _ _)
  | ((with_reducible refine Lw.Hmir_T (o := ?z0) (f := ?z1) (mv := ?z2) (z := ?z3) ?h ?h1 ?h2 ?h3 ?h4 ?h5 ?h6 ?_); (case h => walk_at "hp"); (case h1 => omega); (case h2 => omega); (case h3 => omega); (case h4 => omega); (case h5 => omega); (case h6 => omega); intro _ _ _ _ _)
  | ((with_reducible refine Lw.eq_HH (o := ?z0) (f := ?z1) (mv := ?z2) (z := ?z3) (u := ?z4) (g := ?z5) (mv' := ?z6) (z' := ?z7) (by assumption) ?h ?k ?_); (case h => walk_at "hp"); (case k => walk_at "hp"); intro _ _)
  | ((with_reducible refine Lw.ne_HH (o := ?z0) (f := ?z1) (mv := ?z2) (z := ?z3) (u := ?z4) (g := ?z5) (mv' := ?z6) (z' := ?z7) (by assumption) ?h ?k ?_); (case h => walk_at "hp"); (case k => walk_at "hp"); intro _ _))
local macro_rules | `(tactic| walk_at "gx") => `(tactic| ((with_reducible refine Lw.ne_VL (c := ?z0) (d := ?z1) (c' := ?z2) (d' := ?z3) (n := ?z4) (b := ?z5) (e := ?z6) (by assumption) ?h ?k ?v ?l ?hb ?en ?_); (case h => walk_at "hp"); (case k => walk_at "hp"); (case v => assumption); (case l => assumption); (case hb => omega); (case en => first | exact Lw.due_1 _ | exact Lw.due_2 _ | omega); intro _ _))

local macro_rules | `(tactic| walk_at "gx") => `(tactic| first
  | ((with_reducible refine Lw.pick_220 (l := ?z0) (m := ?z1) ?h1 ?h2 ?h3 ?h4 ?_); (case h1 => walk_at "hp"); (case h2 => omega); (case h3 => walk_at "hp"); (case h4 => first | assumption | (apply Ne.symm; assumption) | (refine Lw.PenL.neu (H := ?zH) (l := ?zl) (n := ?zn) ?e1 ?e2; (case e1 => assumption); (case e2 => walk_at "hp"))); intro _ _ _ _ _ _)
  | ((with_reducible refine Lw.tone_p (l := ?z0) (n := ?z1) ?h1 ?h2 ?h3 ?h4 ?_); (case h1 => walk_at "hp"); (case h2 => omega); (case h3 => omega); (case h4 => omega); intro _ _ _ _ _ _ _ _ _ _ _)
  | ((with_reducible refine Lw.realH_t (o := ?z0) (f := ?z1) (mv := ?z2) (z := ?z3) ?hx ?hy ?h1 ?h2 ?h3 ?h4 ?h5 ?h6 ?_); (case hx => walk_at "hp"); (case hy => walk_at "hp"); (case h1 => omega); (case h2 => omega); (case h3 => omega); (case h4 => omega); (case h5 => omega); (case h6 => omega); intro _ _ _ _ _)
  | ((with_reducible refine Lw.keptr_t (l := ?z0) (m := ?z1) (o := ?z2) (f := ?z3) (mv := ?z4) (z := ?z5) ?h ?hn ?k0 ?k1 ?k2 ?h1 ?h2 ?h3 ?h4 ?h5 ?h6 ?_); (case h => walk_at "hp"); (case hn => omega); (case k0 => walk_at "hp"); (case k1 => walk_at "hp"); (case k2 => walk_at "hp"); (case h1 => omega); (case h2 => omega); (case h3 => omega); (case h4 => omega); (case h5 => omega); (case h6 => omega); intro _ _ _)
  | ((with_reducible refine Lw.pitchr_t (l := ?z0) (m := ?z1) (o := ?z2) (f := ?z3) (mv := ?z4) (z := ?z5) ?h ?hn ?k0 ?k1 ?k2 ?h1 ?h2 ?h3 ?h4 ?h5 ?h6 ?_); (case h => walk_at "hp"); (case hn => omega); (case k0 => walk_at "hp"); (case k1 => walk_at "hp"); (case k2 => walk_at "hp"); (case h1 => omega); (case h2 => omega); (case h3 => omega); (case h4 => omega); (case h5 => omega); (case h6 => omega); intro _ _ _)
  | ((with_reducible refine Lw.ne_TTs (o := ?z0) (f := ?z1) (by assumption) ?h1 ?h2 ?_); (case h1 => walk_at "hp"); (case h2 => walk_at "hp"); intro _ _)
  | ((with_reducible refine Lw.eq_TTs (o := ?z0) (f := ?z1) (by assumption) ?h1 ?h2 ?_); (case h1 => walk_at "hp"); (case h2 => walk_at "hp"); intro _ _)
  | ((with_reducible refine Lw.eq_mmS (mv := ?z0) (z := ?z1) (by assumption) ?h1 ?h2 ?_); (case h1 => walk_at "hp"); (case h2 => walk_at "hp"))
  | ((with_reducible refine Lw.ne_HHs (o := ?z0) (f := ?z1) (mv := ?z2) (z := ?z3) (o' := ?z4) (f' := ?z5) (z' := ?z6) (by assumption) ?h1 ?h2 ?e1 ?e2 ?e3 ?_); (case h1 => walk_at "hp"); (case h2 => walk_at "hp"); (case e1 => first | rfl | omega); (case e2 => first | rfl | omega); (case e3 => first | rfl | omega); intro _ _)
  | ((with_reducible refine Lw.eq_Ho (o := ?z0) (f := ?z1) (mv := ?z2) (z := ?z3) (by assumption) ?h1 ?h2 ?_); (case h1 => walk_at "hp"); (case h2 => walk_at "hp"))
  | ((with_reducible refine Lw.eq_Ri (c := ?z0) (d := ?z1) (n := ?z2) (b := ?z3) (by assumption) ?h1 ?v ?hb ?en ?hi ?_); (case h1 => walk_at "hp"); (case v => assumption); (case hb => omega); (case en => decide +kernel); (case hi => walk_at "bdw"); intro _ _))
local macro_rules | `(tactic| walk_at "hp") => `(tactic| (refine Lw.OddH.kp (by assumption) ?_; walk_at "hp"))
local macro_rules | `(tactic| walk_at "gx") => `(tactic| first
  | ((with_reducible refine Lw.int_f0 ?_); intro _ _ _)
  | ((with_reducible refine Lw.eq_HHn (o := ?z0) (f := ?z1) (mv := ?z2) (z := ?z3) (f' := ?z4) (by assumption) ?h1 ?h2 ?e ?_); (case h1 => walk_at "hp"); (case h2 => walk_at "hp"); (case e => omega); intro _ _))

-- the plain forms first
local macro_rules | `(tactic| walk_at "g") => `(tactic| first
  | ((with_reducible refine G.st_var (v := ?z0) ?h ?_); (case h => rfl))
  | with_reducible refine G.st_c ?_
  | with_reducible refine G.st_op ?_
  | with_reducible refine G.st_seq ?_
  | with_reducible refine G.st_asg ?_
  | with_reducible refine G.st_test ?_
  | with_reducible refine G.st_B ?_
  | with_reducible refine G.st_cons ?_
  | with_reducible refine G.st_nil ?_
  | with_reducible refine G.st_call ?_
  | with_reducible refine G.st_exbl ?_
  | with_reducible refine G.st_exblP ?_
  | with_reducible refine G.st_iteT ?_
  | with_reducible refine G.st_iteF ?_
  | with_reducible refine G.st_ifS ?_
  | with_reducible refine G.st_ret ?_
  | with_reducible refine G.st_methP ?_
  | with_reducible refine G.st_fld ?_
  | with_reducible refine G.st_exint ?_
  | with_reducible refine G.st_exintP ?_
  | with_reducible refine G.st_tup ?_
  | with_reducible refine G.st_lst ?_
  | with_reducible refine G.st_mk ?_
  | with_reducible refine G.st_and ?_
  | with_reducible refine G.st_or ?_
  | with_reducible refine G.st_not ?_)

namespace Lw
open PySem PySem.Spec PyProof.Rows L2
section
variable {P : Program} {w : World} {K : PySem.W.Frag} {mg : Str → Option Value} {base : Heap} {H H' : Hp} {Q : VK} {E : XK} {p q l r x y u : Addr} {a b c d t m i j z z' k : Int} {v : V} {n n' : Nat} {xs : List V} {mv mv' : Bool}
theorem ok_law_fraction (T : Tx K mg) : G.FnG P w K mg base CX0 4 (a_law_fraction K) (G.fdOf K (a_law_fraction K)) ["_law_pen_here"] sp_fraction := by
  refine G.ok_of (F_law_fraction T) sc_law_fraction (fun vs H Q E h => ?_) (fun cdv A outer s H vs Q E hr h => ?_)
  · obtain ⟨p, l, n, rfl, _⟩ := h
    rfl
  · obtain ⟨p, l, n, rfl, hp, hn, q⟩ := h
    obtain ⟨ys, hys⟩ := hp.is
    refine ⟨_, (pss_cons (ps_set (i := 1) sc_law_fraction.nd rfl (Or.inl rfl) (pe_lst (pa_cons (pe_tup (pa_cons pe_int (pa_cons pe_int pa_nil))) (pa_cons (pe_tup (pa_cons pe_int (pa_cons pe_int pa_nil))) (pa_cons (pe_tup (pa_cons pe_int (pa_cons pe_int pa_nil))) (pa_cons (pe_tup (pa_cons pe_int (pa_cons pe_int pa_nil))) (pa_cons (pe_tup (pa_cons pe_int (pa_cons pe_int pa_nil))) (pa_cons (pe_tup (pa_cons pe_int (pa_cons pe_int pa_nil))) (pa_cons (pe_tup (pa_cons pe_int (pa_cons pe_int pa_nil))) (pa_cons (pe_tup (pa_cons pe_int (pa_cons pe_int pa_nil))) (pa_cons (pe_tup (pa_cons pe_int (pa_cons pe_int pa_nil))) (pa_cons (pe_tup (pa_cons pe_int (pa_cons pe_int pa_nil))) pa_nil))))))))))))
    (pss_cons (ps_set (i := 2) sc_law_fraction.nd rfl (Or.inl rfl) (pe_lst (pa_cons (pe_tup (pa_cons (pe_op G.op_powG pe_int pe_int) (pa_cons (pe_op G.op_addG (pe_op G.op_mulG pe_int (pe_op G.op_powG pe_int pe_int)) pe_int) pa_nil))) (pa_cons (pe_tup (pa_cons (pe_op G.op_subG (pe_op G.op_powG pe_int pe_int) pe_int) (pa_cons (pe_op G.op_powG pe_int pe_int) pa_nil))) (pa_cons (pe_tup (pa_cons pe_int (pa_cons (pe_op G.op_subG (pe_op G.op_powG pe_int pe_int) pe_int) pa_nil))) (pa_cons (pe_tup (pa_cons pe_int (pa_cons (pe_op G.op_powG pe_int pe_int) pa_nil))) pa_nil))))))
    (pss_one (ps_ret (G.pe_callG (ok_law_pick T) (hr.mono (by first | decide | omega)) rfl (gl_law_pick T) (F_law_pick T).kp (bi_law_pick T) .nil pass0 (pa_cons (pv 0) (pa_cons (pe_op G.op_addG (pv 1) (pv 2)) pa_nil))))))), ?_⟩
    walk_at "start"
    walk_at "go"
    rename_i v H1 hv m1 p1
    simp only [List.cons_append, List.nil_append, List.mem_cons, List.not_mem_nil, or_false] at hv
    rcases hv with rfl | rfl | rfl | rfl | rfl | rfl | rfl | rfl | rfl | rfl | rfl | rfl | rfl | rfl
    all_goals exact q _ _ _ _ (by walk_at "mdt") p1 (by walk_at "hp") ⟨by decide +kernel, by decide +kernel, by decide +kernel, by decide +kernel⟩
end
end Lw

namespace Lw
open PySem PySem.Spec PyProof.Rows L2
section
variable {P : Program} {w : World} {K : PySem.W.Frag} {mg : Str → Option Value} {base : Heap} {H H' : Hp} {Q : VK} {E : XK} {p q l r x y u : Addr} {a b c d t m i j z z' k : Int} {v : V} {n n' : Nat} {xs : List V} {mv mv' : Bool}
theorem bd_mid {i : Int} (h0 : -1000 ≤ i) (h1 : i ≤ 100000000000000000000) : G.Bd 140 i := (G.Bd.of_le (G.Bd.lit 100000000000000000000) (by omega)).mono (by decide +kernel)
theorem ok_law_number (T : Tx K mg) : G.FnG P w K mg base CX0 4 (a_law_number K) (G.fdOf K (a_law_number K)) ["_law_pen_here"] sp_number := by
  refine G.ok_of (F_law_number T) sc_law_number (fun vs H Q E h => ?_) (fun cdv A outer s H vs Q E hr h => ?_)
  · obtain ⟨p, l, n, rfl, _⟩ := h
    rfl
  · obtain ⟨p, l, n, rfl, hp, hn, q⟩ := h
    refine ⟨_, (pss_cons (ps_set (i := 1) sc_law_number.nd rfl (Or.inl rfl) (pe_lst (pa_cons pe_int (pa_cons pe_int (pa_cons (pe_un G.un_negG pe_int) (pa_cons pe_int (pa_cons (pe_un G.un_negG pe_int) (pa_cons (pe_op G.op_subG (G.pe_callG (ok_law_draw T) (hr.mono (by first | decide | omega)) rfl (gl_law_draw T) (F_law_draw T).kp (bi_law_draw T) .nil pass0 (pa_cons (pv 0) (pa_cons pe_int pa_nil))) pe_int) pa_nil))))))))
    (pss_one (ps_ret (G.pe_callG (ok_law_pick T) (hr.mono (by first | decide | omega)) rfl (gl_law_pick T) (F_law_pick T).kp (bi_law_pick T) .nil pass0 (pa_cons (pv 0) (pa_cons (pe_op G.op_addG (pv 1) (pe_lst (pa_cons (pe_op G.op_powG pe_int pe_int) (pa_cons (pe_op G.op_subG pe_int (pe_op G.op_powG pe_int pe_int)) (pa_cons (G.pe_callG (ok_law_draw T) (hr.mono (by first | decide | omega)) rfl (gl_law_draw T) (F_law_draw T).kp (bi_law_draw T) .nil pass0 (pa_cons (pv 0) (pa_cons (pe_op G.op_powG pe_int pe_int) pa_nil))) pa_nil))))) pa_nil)))))), ?_⟩
    walk_at "start"
    walk_at "go"
    rename_i v H1 hv m1 p1
    have m0 : G.Md p H H1 := by walk_at "mdt"
    simp only [List.cons_append, List.nil_append, List.mem_cons, List.not_mem_nil, or_false] at hv
    rcases hv with rfl | rfl | rfl | rfl | rfl | rfl | rfl | rfl | rfl
    all_goals first
      | exact q _ _ m0 p1 (by show Int.natAbs _ < 2 ^ 140; decide +kernel)
      | exact q _ _ m0 p1 (bd_mid (by omega) (by omega))
end
end Lw

namespace Lw
open PySem PySem.Spec PyProof.Rows L2
section
variable {P : Program} {w : World} {K : PySem.W.Frag} {mg : Str → Option Value} {base : Heap} {H H' : Hp} {Q : VK} {E : XK} {p q l r x y u : Addr} {a b c d t m i j z z' k : Int} {v : V} {n n' : Nat} {xs : List V} {mv mv' : Bool}
theorem ok_law_term (T : Tx K mg) : G.FnG P w K mg base CX0 4 (a_law_term K) (G.fdOf K (a_law_term K)) ["_law_pen_here", "_law_far"] sp_trm := by
  refine G.ok_of (F_law_term T) sc_law_term (fun vs H Q E h => ?_) (fun cdv A outer s H vs Q E hr h => ?_)
  · obtain ⟨p, l, n, m, rfl, _⟩ := h
    rfl
  · obtain ⟨p, l, n, m, rfl, hp, hn, m0, m1, q⟩ := h
    obtain ⟨ys, hys⟩ := hp.is
    have bm : G.Bd 10 m := bd_12 (by omega) (by omega)
    refine ⟨_, (pss_one (ps_ret (pe_tup (pa_cons (G.pe_callG (ok_law_pick T) (hr.mono (by first | decide | omega)) rfl (gl_law_pick T) (F_law_pick T).kp (bi_law_pick T) .nil pass0 (pa_cons (pv 0) (pa_cons (pe_lst (pa_cons pe_str (pa_cons pe_str pa_nil))) pa_nil))) (pa_cons (pe_op G.op_subG (G.pe_callG (ok_law_draw T) (hr.mono (by first | decide | omega)) rfl (gl_law_draw T) (F_law_draw T).kp (bi_law_draw T) .nil pass0 (pa_cons (pv 0) (pa_cons (pe_op G.op_addG (pe_op G.op_mulG pe_int (pv 1)) pe_int) pa_nil))) (pv 1)) pa_nil))))), ?_⟩
    walk_at "start"
    walk_at "go"
    rename_i v H1 hv k1 p1 d H2 k2 p2 d0 d1 x H3 n3 k3 e3
    have mm : G.Md p H H3 := by walk_at "mdt"
    have p3 := p2.kp k3
    simp only [List.mem_cons, List.not_mem_nil, or_false] at hv
    rcases hv with rfl | rfl
    · exact q x H3 true (d - m) mm p3 e3 (by omega) (by omega)
    · exact q x H3 false (d - m) mm p3 e3 (by omega) (by omega)
end
end Lw

namespace Lw
open PySem PySem.Spec PyProof.Rows L2
section
variable {P : Program} {w : World} {K : PySem.W.Frag} {mg : Str → Option Value} {base : Heap} {H H' : Hp} {Q : VK} {E : XK} {p q l r x y u : Addr} {a b c d t m i j z z' k : Int} {v : V} {n n' : Nat} {xs : List V} {mv mv' : Bool}
theorem ok_law_real_term (T : Tx K mg) : G.FnG P w K mg base CX0 7 (a_law_real_term K) (G.fdOf K (a_law_real_term K)) ["_law_term_here"] (sp_real K) := by
  refine G.ok_of (F_law_real_term T) sc_law_real_term (fun vs H Q E h => ?_) (fun cdv A outer s H vs Q E hr h => ?_)
  · obtain ⟨u, mv, z, rfl, _⟩ := h
    rfl
  · obtain ⟨u, mv, z, rfl, hu, h1, h2, q⟩ := h
    refine ⟨_, (pss_one (ps_ret (pe_ifExp (pt_cmpR (G.op_eqG hr.units) (pe_ix ix_seq (pv 0) pe_int (fun _ _ => rfl)) pe_str (nomark _)) (G.pe_makeG (mk_Moving T) (ok_Term_init T) (hr.mono (by first | decide | omega)) rfl (gl_Moving T) (bi_Term_init T) .nil pass0 (pa_cons (pe_ix ix_seq (pv 0) pe_int (fun _ _ => rfl)) pa_nil)) (G.pe_makeG (mk_Note T) (ok_Term_init T) (hr.mono (by first | decide | omega)) rfl (gl_Note T) (bi_Term_init T) .nil pass0 (pa_cons (pe_ix ix_seq (pv 0) pe_int (fun _ _ => rfl)) pa_nil))))), ?_⟩
    walk_at "start"
    walk_at "gob"
    · rename_i hc x H1 n1 k1 e1
      subst hc
      exact q _ _ (by walk_at "fr") (by walk_at "kp") e1
    · rename_i hc x H1 n1 k1 e1
      subst hc
      exact q _ _ (by walk_at "fr") (by walk_at "kp") e1
end
end Lw

namespace Lw
open PySem PySem.Spec PyProof.Rows L2
section
variable {P : Program} {w : World} {K : PySem.W.Frag} {mg : Str → Option Value} {base : Heap} {H H' : Hp} {Q : VK} {E : XK} {p q l r x y u : Addr} {a b c d t m i j z z' k : Int} {v : V} {n n' : Nat} {xs : List V} {mv mv' : Bool}
theorem ok_law_key (T : Tx K mg) : G.FnG P w K mg base CX0 1 (a_law_key K) (G.fdOf K (a_law_key K)) ["_law_term_here", "_law_n", "_law_top", "_law_bottom"] sp_key := by
  refine G.ok_of (F_law_key T) sc_law_key (fun vs H Q E h => ?_) (fun cdv A outer s H vs Q E hr h => ?_)
  · obtain ⟨u, mv, z, n, t, b, rfl, _⟩ := h
    rfl
  · obtain ⟨u, mv, z, n, t, b, rfl, hu, h0, h1, h2, h3, q⟩ := h
    refine ⟨_, (pss_one (ps_ret (pe_op G.op_modG (pe_callTy G.call_intG (by rfl) (fr_int T) boot_int (pa_cons (pe_op G.op_mulG (pe_op G.op_addG (pe_ifExp (pt_cmpR (G.op_eqG hr.units) (pe_ix ix_seq (pv 0) pe_int (fun _ _ => rfl)) pe_str (nomark _)) (pv 1) pe_int) (pe_ix ix_seq (pv 0) pe_int (fun _ _ => rfl))) (pv 2)) pa_nil)) (pv 3)))), ?_⟩
    walk_at "start"
    walk_at "gob"
    · rename_i hc
      subst hc
      simpa [mvi] using q
    · rename_i hc
      subst hc
      simpa [mvi] using q
end
end Lw

namespace Lw
open PySem PySem.Spec PyProof.Rows L2
section
variable {P : Program} {w : World} {K : PySem.W.Frag} {mg : Str → Option Value} {base : Heap} {H H' : Hp} {Q : VK} {E : XK} {p q l r x y u : Addr} {a b c d t m i j z z' k : Int} {v : V} {n n' : Nat} {xs : List V} {mv mv' : Bool}
theorem ok_law_tone (T : Tx K mg) : G.FnG P w K mg base CX0 4 (a_law_tone K) (G.fdOf K (a_law_tone K)) ["_law_pen_here", "_law_far"] sp_tone := by
  refine G.ok_of (F_law_tone T) sc_law_tone (fun vs H Q E h => ?_) (fun cdv A outer s H vs Q E hr h => ?_)
  · obtain ⟨p, l, n, m, rfl, _⟩ := h
    rfl
  · obtain ⟨p, l, n, m, rfl, hp, hn, m0, m1, q⟩ := h
    have bm : G.Bd 10 m := (G.Bd.of_le (G.Bd.lit 20) (by omega)).mono (by decide +kernel)
    refine ⟨_, (pss_one (ps_ret (pe_tup (pa_cons (pe_op G.op_subG (G.pe_callG (ok_law_draw T) (hr.mono (by first | decide | omega)) rfl (gl_law_draw T) (F_law_draw T).kp (bi_law_draw T) .nil pass0 (pa_cons (pv 0) (pa_cons (pe_op G.op_addG (pe_op G.op_mulG pe_int (pv 1)) pe_int) pa_nil))) (pv 1)) (pa_cons (pe_op G.op_subG (G.pe_callG (ok_law_draw T) (hr.mono (by first | decide | omega)) rfl (gl_law_draw T) (F_law_draw T).kp (bi_law_draw T) .nil pass0 (pa_cons (pv 0) (pa_cons (pe_op G.op_addG (pe_op G.op_mulG pe_int (pv 1)) pe_int) pa_nil))) (pv 1)) pa_nil))))), ?_⟩
    walk_at "start"
    walk_at "go"
    rename_i x H3 n3 k3 e3
    exact q x H3 _ _ (by walk_at "mdt") (by walk_at "hp") e3 (by omega) (by omega) (by omega) (by omega)
theorem ok_law_real_height (T : Tx K mg) : G.FnG P w K mg base CX0 9 (a_law_real_height K) (G.fdOf K (a_law_real_height K)) ["_law_tone_here", "_law_term_here"] (sp_realH K) := by
  refine G.ok_of (F_law_real_height T) sc_law_real_height (fun vs H Q E h => ?_) (fun cdv A outer s H vs Q E hr h => ?_)
  · obtain ⟨x, y, o, f, mv, z, rfl, _⟩ := h
    rfl
  · obtain ⟨x, y, o, f, mv, z, rfl, hx, hy, h1, h2, h3, h4, h5, h6, q⟩ := h
    refine ⟨_, (pss_one (ps_ret (G.pe_makeG (mk_Height T) (ok_Height_init T) (hr.mono (by first | decide | omega)) rfl (gl_Height T) (bi_Height_init T) .nil pass0 (pa_cons (G.pe_makeG (mk_Tone T) (ok_Tone_init T) (hr.mono (by first | decide | omega)) rfl (gl_Tone T) (bi_Tone_init T) .nil pass0 (pa_cons (pe_ix ix_seq (pv 0) pe_int (fun _ _ => rfl)) (pa_cons (pe_ix ix_seq (pv 0) pe_int (fun _ _ => rfl)) pa_nil))) (pa_cons (G.pe_callG (ok_law_real_term T) (hr.mono (by first | decide | omega)) rfl (gl_law_real_term T) (F_law_real_term T).kp (bi_law_real_term T) .nil pass0 (pa_cons (pv 1) pa_nil)) pa_nil))))), ?_⟩
    walk_at "start"
    walk_at "gob"
    exact q _ _ (by walk_at "fr") (by walk_at "kp") (by assumption)
end
end Lw

namespace Lw
open PySem PySem.Spec PyProof.Rows L2
section
variable {P : Program} {w : World} {K : PySem.W.Frag} {mg : Str → Option Value} {base : Heap} {H H' : Hp} {Q : VK} {E : XK} {p q l r x y u : Addr} {a b c d t m i j z z' k : Int} {v : V} {n n' : Nat} {xs : List V} {mv mv' : Bool}
theorem bd_20 {z : Int} (h1 : -40 ≤ z) (h2 : z ≤ 40) : G.Bd 8 z := (G.Bd.of_le (G.Bd.lit 40) (by omega)).mono (by decide +kernel)
theorem ok_law_pitch_right (T : Tx K mg) : G.FnG P w K mg base CX0 12 (a_law_pitch_right K) (G.fdOf K (a_law_pitch_right K)) ["_law_pen_here", "_law_made", "_law_tone_here", "_law_term_here"] (sp_pitchr K) := by
  refine G.ok_of (F_law_pitch_right T) sc_law_pitch_right (fun vs H Q E h => ?_) (fun cdv A outer s H vs Q E hr h => ?_)
  · obtain ⟨p, l, n, x, y, q, o, f, mv, z, rfl, _⟩ := h
    rfl
  · obtain ⟨p, l, n, x, y, q, o, f, mv, z, rfl, hp, hn, hx, hy, hq, h1, h2, h3, h4, h5, h6, k⟩ := h
    have bo : G.Bd 8 o := bd_20 (by omega) (by omega)
    have bf : G.Bd 8 f := bd_20 (by omega) (by omega)
    have bz : G.Bd 8 z := bd_20 (by omega) (by omega)
    obtain ⟨ys, hys⟩ := hp.is
    refine ⟨_, (pss_cons (ps_for PassesOwn.never rfl (pi_range1 rfl (fr_range T) (pa_cons pe_int pa_nil)) (pg_name (i := 4) sc_law_pitch_right.nd rfl (Or.inl rfl)) (pss_cons (ps_asg (G.pe_callG (ok_law_fraction T) (hr.mono (by first | decide | omega)) rfl (gl_law_fraction T) (F_law_fraction T).kp (bi_law_fraction T) .nil pass0 (pa_cons (pv 0) pa_nil)) (pg_tup (n := 2) (by rfl) (pgs_cons (pg_name (i := 5) sc_law_pitch_right.nd rfl (Or.inl rfl)) (pgs_cons (pg_name (i := 6) sc_law_pitch_right.nd rfl (Or.inl rfl)) pgs_nil))))
    (pss_cons (ps_set (i := 7) sc_law_pitch_right.nd rfl (Or.inl rfl) (G.pe_callG (ok_law_number T) (hr.mono (by first | decide | omega)) rfl (gl_law_number T) (F_law_number T).kp (bi_law_number T) .nil pass0 (pa_cons (pv 0) pa_nil)))
    (pss_cons (ps_set (i := 8) sc_law_pitch_right.nd rfl (Or.inl rfl) (G.pe_makeG (mk_Ratio T) (ok_Ratio_init T) (hr.mono (by first | decide | omega)) rfl (gl_Ratio T) (bi_Ratio_init T) .nil pass0 (pa_cons (pv 5) (pa_cons (pv 6) pa_nil))))
    (pss_cons (ps_set (i := 9) sc_law_pitch_right.nd rfl (Or.inl rfl) (G.pe_makeG (mk_Ratio T) (ok_Ratio_init T) (hr.mono (by first | decide | omega)) rfl (gl_Ratio T) (bi_Ratio_init T) .nil pass0 (pa_cons (pe_op G.op_addG (pe_op G.op_addG (pe_op G.op_mulG (pe_ix ix_seq (pv 2) pe_int (fun _ _ => rfl)) (pv 6)) (pe_op G.op_mulG (pe_ix ix_seq (pv 2) pe_int (fun _ _ => rfl)) (pv 5))) (G.pe_callG (ok_law_key T) (hr.mono (by first | decide | omega)) rfl (gl_law_key T) (F_law_key T).kp (bi_law_key T) .nil pass0 (pa_cons (pv 3) (pa_cons (pv 7) (pa_cons (pv 5) (pa_cons (pv 6) pa_nil)))))) (pa_cons (pv 6) pa_nil))))
    (pss_cons (ps_if (PW.pt (pw_or (pt_cmpR (G.op_neQ (ok_Ratio_eq T) (hr.mono (by decide)) (bi_Ratio_eq T) pass0) (G.pe_methP (pv 1) (ok_Height_pitch T) (hr.mono (by first | decide | omega)) (bi_Height_pitch T) .nil pass0 (pa_cons (pv 7) (pa_cons (pv 8) pa_nil))) (pv 9) (nomark _)) (pw_or1 (pt_not (pt_val (pe_callB G.call_isiG (by rfl) (fr_isinstance T) boot_isinstance (pa_cons (G.pe_methP (pv 1) (ok_Height_pitch T) (hr.mono (by first | decide | omega)) (bi_Height_pitch T) .nil pass0 (pa_cons (pv 7) (pa_cons (pv 8) pa_nil))) (pa_cons (G.pe_cl rfl (gl_Ratio T)) pa_nil)))))))) (pss_one (ps_ret pe_bl)) pss_nil)
    (pss_one (ps_if (PW.pt (pw_and (pt_cmpR G.op_leG (pe_callB G.call_absG (by rfl) (fr_abs T) boot_abs (pa_cons (pe_op G.op_addG (pe_ix ix_seq (pv 2) pe_int (fun _ _ => rfl)) (pe_ix ix_seq (pv 2) pe_int (fun _ _ => rfl))) pa_nil)) pe_int (nomark _)) (pw_and1 (pt_cmpR (G.op_neQ (ok_Ratio_eq T) (hr.mono (by decide)) (bi_Ratio_eq T) pass0) (G.pe_methP (G.pe_methP0 (pv 1) (ok_Height_mirrored T) (hr.mono (by first | decide | omega)) (bi_Height_mirrored T) .nil pass0 ) (ok_Height_pitch T) (hr.mono (by first | decide | omega)) (bi_Height_pitch T) .nil pass0 (pa_cons (pe_op (G.opOr G.op_subG (G.bin1_R (op := .Sub) (op_Ratio_sub T) (ow_Ratio_rsub T) PySem.F.fills_int_sub G.declines_sub (si_Ratio T) (ok_Ratio_rsub T) (hr.mono (by decide)) (bi_Ratio_rsub T) pass0)) pe_int (pv 7)) (pa_cons (pe_op (G.opOr G.op_subG (G.bin1_R (op := .Sub) (op_Ratio_sub T) (ow_Ratio_rsub T) PySem.F.fills_int_sub G.declines_sub (si_Ratio T) (ok_Ratio_rsub T) (hr.mono (by decide)) (bi_Ratio_rsub T) pass0)) pe_int (pv 8)) pa_nil))) (pv 9) (nomark _))))) (pss_one (ps_ret pe_bl)) pss_nil))))))))
    (pss_one (ps_ret pe_bl))), ?_⟩
    walk_at "start"
    walk_at "go"
    refine G.for_rng (fun i σ H' => ∃ v4 v5 v6 v7 v8 v9, σ = [some (.ref p), some (.ref x), some (.ref y), some (.ref q), v4, v5, v6, v7, v8, v9] ∧ G.Md p H H' ∧ PenL H' p l (n + 4 * i)) ⟨_, _, _, _, _, _, rfl, G.mdt_s hys, hp⟩ ?_ ?_
    · rintro i σ H2 hi ⟨v4, v5, v6, v7, v8, v9, rfl, m2, p2⟩
      walk_at "gob"
      all_goals exact ⟨_, _, _, _, _, _, rfl, by walk_at "mdt", PenL.mono (n := n + 4 * i + 1 + 3) (by walk_at "hp") (by omega)⟩
    · rintro σ H2 ⟨v4, v5, v6, v7, v8, v9, rfl, m2, p2⟩
      walk_at "gob"
      exact k _ m2 (p2.mono (by omega))
end
end Lw

namespace Lw
open PySem PySem.Spec PyProof.Rows L2
section
variable {P : Program} {w : World} {K : PySem.W.Frag} {mg : Str → Option Value} {base : Heap} {H H' : Hp} {Q : VK} {E : XK} {p q l r x y u : Addr} {a b c d t m i j z z' k : Int} {v : V} {n n' : Nat} {xs : List V} {mv mv' : Bool}
theorem ok_law_kept_right (T : Tx K mg) : G.FnG P w K mg base CX0 12 (a_law_kept_right K) (G.fdOf K (a_law_kept_right K)) ["_law_pen_here", "_law_made", "_law_tone_here", "_law_term_here"] (sp_keptr K) := by
  refine G.ok_of (F_law_kept_right T) sc_law_kept_right (fun vs H Q E h => ?_) (fun cdv A outer s H vs Q E hr h => ?_)
  · obtain ⟨p, l, n, x, y, q, o, f, mv, z, rfl, _⟩ := h
    rfl
  · obtain ⟨p, l, n, x, y, q, o, f, mv, z, rfl, hp, hn, hx, hy, hq, h1, h2, h3, h4, h5, h6, k⟩ := h
    obtain ⟨ys, hys⟩ := hp.is
    refine ⟨_, (pss_cons (ps_if (PW.pt (pw_or (pt_cmpR (G.opOr (G.op_neQ (ok_Tone_eq T) (hr.mono (by decide)) (bi_Tone_eq T) pass0) (G.opOr (G.op_neQ (ok_Term_eq T) (hr.mono (by decide)) (bi_Term_eq T) pass0) (G.op_neQ (ok_Height_eq T) (hr.mono (by decide)) (bi_Height_eq T) pass0))) (pe_fld (pv 1) rfl) (G.pe_makeG (mk_Tone T) (ok_Tone_init T) (hr.mono (by first | decide | omega)) rfl (gl_Tone T) (bi_Tone_init T) .nil pass0 (pa_cons (pe_ix ix_seq (pv 2) pe_int (fun _ _ => rfl)) (pa_cons (pe_ix ix_seq (pv 2) pe_int (fun _ _ => rfl)) pa_nil))) (nomark _)) (pw_or1 (pt_cmpR (G.opOr (G.op_neQ (ok_Tone_eq T) (hr.mono (by decide)) (bi_Tone_eq T) pass0) (G.opOr (G.op_neQ (ok_Term_eq T) (hr.mono (by decide)) (bi_Term_eq T) pass0) (G.op_neQ (ok_Height_eq T) (hr.mono (by decide)) (bi_Height_eq T) pass0))) (pe_fld (pv 1) rfl) (G.pe_callG (ok_law_real_term T) (hr.mono (by first | decide | omega)) rfl (gl_law_real_term T) (F_law_real_term T).kp (bi_law_real_term T) .nil pass0 (pa_cons (pv 3) pa_nil)) (nomark _))))) (pss_one (ps_ret pe_bl)) pss_nil)
    (pss_cons (ps_set (i := 4) sc_law_kept_right.nd rfl (Or.inl rfl) (pe_op G.op_subG (pe_op G.op_subG (G.pe_callG (ok_law_draw T) (hr.mono (by first | decide | omega)) rfl (gl_law_draw T) (F_law_draw T).kp (bi_law_draw T) .nil pass0 (pa_cons (pv 0) (pa_cons pe_int pa_nil))) pe_int) (pe_ix ix_seq (pv 3) pe_int (fun _ _ => rfl))))
    (pss_cons (ps_if (pt_cmpR (G.opOr (G.op_neQ (ok_Tone_eq T) (hr.mono (by decide)) (bi_Tone_eq T) pass0) (G.opOr (G.op_neQ (ok_Term_eq T) (hr.mono (by decide)) (bi_Term_eq T) pass0) (G.op_neQ (ok_Height_eq T) (hr.mono (by decide)) (bi_Height_eq T) pass0))) (G.pe_methP (pv 1) (ok_Height_moved T) (hr.mono (by first | decide | omega)) (bi_Height_moved T) .nil pass0 (pa_cons (pv 4) pa_nil)) (G.pe_callG (ok_law_real_height T) (hr.mono (by first | decide | omega)) rfl (gl_law_real_height T) (F_law_real_height T).kp (bi_law_real_height T) .nil pass0 (pa_cons (pv 2) (pa_cons (pe_tup (pa_cons (pe_ix ix_seq (pv 3) pe_int (fun _ _ => rfl)) (pa_cons (pe_op G.op_addG (pe_ix ix_seq (pv 3) pe_int (fun _ _ => rfl)) (pv 4)) pa_nil))) pa_nil))) (nomark _)) (pss_one (ps_ret pe_bl)) pss_nil)
    (pss_cons (ps_if (pt_cmpR (G.opOr (G.op_neQ (ok_Tone_eq T) (hr.mono (by decide)) (bi_Tone_eq T) pass0) (G.opOr (G.op_neQ (ok_Term_eq T) (hr.mono (by decide)) (bi_Term_eq T) pass0) (G.op_neQ (ok_Height_eq T) (hr.mono (by decide)) (bi_Height_eq T) pass0))) (G.pe_methP (G.pe_methP (pv 1) (ok_Height_moved T) (hr.mono (by first | decide | omega)) (bi_Height_moved T) .nil pass0 (pa_cons (pv 4) pa_nil)) (ok_Height_moved T) (hr.mono (by first | decide | omega)) (bi_Height_moved T) .nil pass0 (pa_cons (pe_op G.op_subG pe_int (pv 4)) pa_nil)) (pv 1) (nomark _)) (pss_one (ps_ret pe_bl)) pss_nil)
    (pss_cons (ps_if (pt_cmpR G.op_leG (pe_callB G.call_absG (by rfl) (fr_abs T) boot_abs (pa_cons (pe_op G.op_addG (pe_ix ix_seq (pv 2) pe_int (fun _ _ => rfl)) (pe_ix ix_seq (pv 2) pe_int (fun _ _ => rfl))) pa_nil)) pe_int (nomark _)) (pss_cons (ps_set (i := 5) sc_law_kept_right.nd rfl (Or.inl rfl) (G.pe_callG (ok_law_real_height T) (hr.mono (by first | decide | omega)) rfl (gl_law_real_height T) (F_law_real_height T).kp (bi_law_real_height T) .nil pass0 (pa_cons (pe_tup (pa_cons (pe_op G.op_addG (pe_ix ix_seq (pv 2) pe_int (fun _ _ => rfl)) (pe_ix ix_seq (pv 2) pe_int (fun _ _ => rfl))) (pa_cons (pe_op G.op_subG pe_int (pe_ix ix_seq (pv 2) pe_int (fun _ _ => rfl))) pa_nil))) (pa_cons (pe_tup (pa_cons (pe_ix ix_seq (pv 3) pe_int (fun _ _ => rfl)) (pa_cons (pe_op G.op_subG pe_int (pe_ix ix_seq (pv 3) pe_int (fun _ _ => rfl))) pa_nil))) pa_nil))))
    (pss_one (ps_if (PW.pt (pw_or (pt_cmpR (G.opOr (G.op_neQ (ok_Tone_eq T) (hr.mono (by decide)) (bi_Tone_eq T) pass0) (G.opOr (G.op_neQ (ok_Term_eq T) (hr.mono (by decide)) (bi_Term_eq T) pass0) (G.op_neQ (ok_Height_eq T) (hr.mono (by decide)) (bi_Height_eq T) pass0))) (G.pe_methP0 (pv 1) (ok_Height_mirrored T) (hr.mono (by first | decide | omega)) (bi_Height_mirrored T) .nil pass0 ) (pv 5) (nomark _)) (pw_or1 (pt_cmpR (G.opOr (G.op_neQ (ok_Tone_eq T) (hr.mono (by decide)) (bi_Tone_eq T) pass0) (G.opOr (G.op_neQ (ok_Term_eq T) (hr.mono (by decide)) (bi_Term_eq T) pass0) (G.op_neQ (ok_Height_eq T) (hr.mono (by decide)) (bi_Height_eq T) pass0))) (G.pe_methP0 (pv 5) (ok_Height_mirrored T) (hr.mono (by first | decide | omega)) (bi_Height_mirrored T) .nil pass0 ) (pv 1) (nomark _))))) (pss_one (ps_ret pe_bl)) pss_nil))) pss_nil)
    (pss_one (ps_ret (pe_and (pe_cmpR (G.opOr (G.op_eqQ (ok_Tone_eq T) (hr.mono (by decide)) (bi_Tone_eq T) pass0) (G.op_eqQ (ok_Term_eq T) (hr.mono (by decide)) (bi_Term_eq T) pass0)) (pe_fld (pv 1) rfl) (G.pe_makeG (mk_Tone T) (ok_Tone_init T) (hr.mono (by first | decide | omega)) rfl (gl_Tone T) (bi_Tone_init T) .nil pass0 (pa_cons (pe_ix ix_seq (pv 2) pe_int (fun _ _ => rfl)) (pa_cons (pe_ix ix_seq (pv 2) pe_int (fun _ _ => rfl)) pa_nil))) (nomark _)) (pe_one (pe_cmpR (G.opOr (G.op_eqQ (ok_Tone_eq T) (hr.mono (by decide)) (bi_Tone_eq T) pass0) (G.op_eqQ (ok_Term_eq T) (hr.mono (by decide)) (bi_Term_eq T) pass0)) (pe_fld (pv 1) rfl) (G.pe_callG (ok_law_real_term T) (hr.mono (by first | decide | omega)) rfl (gl_law_real_term T) (F_law_real_term T).kp (bi_law_real_term T) .nil pass0 (pa_cons (pv 3) pa_nil)) (nomark _))))))))))), ?_⟩
    walk_at "start"
    walk_at "gob"
    all_goals exact k _ (by walk_at "mdt") (by walk_at "hp")
end
end Lw

namespace Lw
open PySem PySem.Spec PyProof.Rows L2
section
variable {P : Program} {w : World} {K : PySem.W.Frag} {mg : Str → Option Value} {base : Heap} {H H' : Hp} {Q : VK} {E : XK} {p q l r x y u : Addr} {a b c d t m i j z z' k : Int} {v : V} {n n' : Nat} {xs : List V} {mv mv' : Bool}
theorem ok_law (T : Tx K mg) : G.FnG P w K mg base CX0 14 (a_law K) (G.fdOf K (a_law K)) ["_law_script"] (sp_law K) := by
  refine G.ok_of (F_law T) sc_law (fun vs H Q E h => ?_) (fun cdv A outer s H vs Q E hr h => ?_)
  · obtain ⟨x, ns, rfl, _⟩ := h
    rfl
  · obtain ⟨x, ns, rfl, hx, ln, q⟩ := h
    have g12 : Int.gcd 1 2 = 1 := by decide
    refine ⟨_, (pss_cons (ps_set (i := 1) sc_law.nd rfl (Or.inl rfl) (G.pe_callG (ok_law_pen T) (hr.mono (by first | decide | omega)) rfl (gl_law_pen T) (F_law_pen T).kp (bi_law_pen T) .nil pass0 (pa_cons (pv 0) pa_nil)))
    (pss_cons (ps_for PassesOwn.never rfl (pi_range1 rfl (fr_range T) (pa_cons pe_int pa_nil)) (pg_name (i := 2) sc_law.nd rfl (Or.inl rfl)) (pss_cons (ps_par (i := 3) (j := 4) (by rfl) sc_law.nd rfl rfl (by decide) rfl rfl (pa_cons (G.pe_callG (ok_law_tone T) (hr.mono (by first | decide | omega)) rfl (gl_law_tone T) (F_law_tone T).kp (bi_law_tone T) .nil pass0 (pa_cons (pv 1) (pa_cons (G.pe_callG (ok_law_pick T) (hr.mono (by first | decide | omega)) rfl (gl_law_pick T) (F_law_pick T).kp (bi_law_pick T) .nil pass0 (pa_cons (pv 1) (pa_cons (pe_lst (pa_cons pe_int (pa_cons pe_int pa_nil))) pa_nil))) pa_nil))) (pa_cons (G.pe_callG (ok_law_term T) (hr.mono (by first | decide | omega)) rfl (gl_law_term T) (F_law_term T).kp (bi_law_term T) .nil pass0 (pa_cons (pv 1) (pa_cons pe_int pa_nil))) pa_nil)) (by rfl))
    (pss_cons (ps_set (i := 5) sc_law.nd rfl (Or.inr rfl) (G.pe_callG (ok_law_real_height T) (hr.mono (by first | decide | omega)) rfl (gl_law_real_height T) (F_law_real_height T).kp (bi_law_real_height T) .nil pass0 (pa_cons (pv 3) (pa_cons (pv 4) pa_nil))))
    (pss_cons (ps_if (PW.pt (pw_or (pt_not (pt_val (G.pe_callG (ok_law_kept_right T) (hr.mono (by first | decide | omega)) rfl (gl_law_kept_right T) (F_law_kept_right T).kp (bi_law_kept_right T) .nil pass0 (pa_cons (pv 1) (pa_cons (pv 5) (pa_cons (pv 3) (pa_cons (pv 4) pa_nil))))))) (pw_or1 (pt_not (pt_val (G.pe_callG (ok_law_pitch_right T) (hr.mono (by first | decide | omega)) rfl (gl_law_pitch_right T) (F_law_pitch_right T).kp (bi_law_pitch_right T) .nil pass0 (pa_cons (pv 1) (pa_cons (pv 5) (pa_cons (pv 3) (pa_cons (pv 4) pa_nil)))))))))) (pss_one (ps_ret pe_bl)) pss_nil)
    (pss_cons (ps_par (i := 6) (j := 7) (by rfl) sc_law.nd rfl rfl (by decide) rfl rfl (pa_cons (G.pe_callG (ok_law_tone T) (hr.mono (by first | decide | omega)) rfl (gl_law_tone T) (F_law_tone T).kp (bi_law_tone T) .nil pass0 (pa_cons (pv 1) (pa_cons pe_int pa_nil))) (pa_cons (G.pe_callG (ok_law_term T) (hr.mono (by first | decide | omega)) rfl (gl_law_term T) (F_law_term T).kp (bi_law_term T) .nil pass0 (pa_cons (pv 1) (pa_cons pe_int pa_nil))) pa_nil)) (by rfl))
    (pss_cons (ps_set (i := 8) sc_law.nd rfl (Or.inl rfl) (pe_cmpR (G.opOr (G.op_eqG hr.units) (G.opOr (G.op_eqQ (ok_Height_eq T) (hr.mono (by decide)) (bi_Height_eq T) pass0) (G.op_eqQ (ok_Ratio_eq T) (hr.mono (by decide)) (bi_Ratio_eq T) pass0))) (G.pe_callG (ok_law_real_height T) (hr.mono (by first | decide | omega)) rfl (gl_law_real_height T) (F_law_real_height T).kp (bi_law_real_height T) .nil pass0 (pa_cons (pv 6) (pa_cons (pv 7) pa_nil))) (G.pe_callG (ok_law_real_height T) (hr.mono (by first | decide | omega)) rfl (gl_law_real_height T) (F_law_real_height T).kp (bi_law_real_height T) .nil pass0 (pa_cons (pv 3) (pa_cons (pv 4) pa_nil))) (nomark _)))
    (pss_cons (ps_if (PW.pt (pw_or (pt_cmpR (G.opOr (G.op_neG hr.units) (G.op_neQ (ok_Height_eq T) (hr.mono (by decide)) (bi_Height_eq T) pass0)) (pv 8) (pe_and (pe_cmpR (G.opOr (G.op_eqG hr.units) (G.opOr (G.op_eqQ (ok_Height_eq T) (hr.mono (by decide)) (bi_Height_eq T) pass0) (G.op_eqQ (ok_Ratio_eq T) (hr.mono (by decide)) (bi_Ratio_eq T) pass0))) (pv 6) (pv 3) (nomark _)) (pe_one (pe_cmpR (G.opOr (G.op_eqG hr.units) (G.opOr (G.op_eqQ (ok_Height_eq T) (hr.mono (by decide)) (bi_Height_eq T) pass0) (G.op_eqQ (ok_Ratio_eq T) (hr.mono (by decide)) (bi_Ratio_eq T) pass0))) (pv 7) (pv 4) (nomark _)))) (nomark _)) (pw_or1 (pt_cmpR (G.opOr (G.op_neG hr.units) (G.op_neQ (ok_Height_eq T) (hr.mono (by decide)) (bi_Height_eq T) pass0)) (pv 5) (G.pe_makeG (mk_Height T) (ok_Height_init T) (hr.mono (by first | decide | omega)) rfl (gl_Height T) (bi_Height_init T) .nil pass0 (pa_cons (pe_fld (pv 5) rfl) (pa_cons (pe_fld (pv 5) rfl) pa_nil))) (nomark _))))) (pss_one (ps_ret pe_bl)) pss_nil)
    (pss_cons (ps_if (pt_cmpR (G.opOr (G.op_eqG hr.units) (G.opOr (G.op_eqQ (ok_Height_eq T) (hr.mono (by decide)) (bi_Height_eq T) pass0) (G.op_eqQ (ok_Ratio_eq T) (hr.mono (by decide)) (bi_Ratio_eq T) pass0))) (pv 5) (G.pe_callG (ok_law_real_height T) (hr.mono (by first | decide | omega)) rfl (gl_law_real_height T) (F_law_real_height T).kp (bi_law_real_height T) .nil pass0 (pa_cons (pe_tup (pa_cons (pe_ix ix_seq (pv 3) pe_int (fun _ _ => rfl)) (pa_cons (pe_op G.op_subG (pe_op G.op_subG pe_int (pe_ix ix_seq (pv 3) pe_int (fun _ _ => rfl))) (pe_callTy G.call_intG (by rfl) (fr_int T) boot_int (pa_cons (pe_cmpR (G.opOr (G.op_eqG hr.units) (G.opOr (G.op_eqQ (ok_Height_eq T) (hr.mono (by decide)) (bi_Height_eq T) pass0) (G.op_eqQ (ok_Ratio_eq T) (hr.mono (by decide)) (bi_Ratio_eq T) pass0))) (pe_ix ix_seq (pv 3) pe_int (fun _ _ => rfl)) pe_int (nomark _)) pa_nil))) pa_nil))) (pa_cons (pv 4) pa_nil))) (nomark _)) (pss_one (ps_ret pe_bl)) pss_nil)
    (pss_one (ps_if (pt_cmpR (G.opOr (G.op_neG hr.units) (G.op_neQ (ok_Height_eq T) (hr.mono (by decide)) (bi_Height_eq T) pass0)) (pe_lc (own := [("_law_thing", 9)]) (by rfl) sc_law.nd (pi_list (pe_lst (pa_cons pe_non (pa_cons (pe_fld (pv 5) rfl) (pa_cons (pe_fld (pv 5) rfl) (pa_cons (pe_tup (pa_cons (pe_fld (pv 5) rfl) (pa_cons (pe_fld (pv 5) rfl) pa_nil))) (pa_cons pe_int pa_nil))))))) (blkOk_by (N := ["_law_script", "_law_pen_here", "_law_turn", "_law_tone_here", "_law_term_here", "_law_made", "_law_near", "_law_other", "_law_like", "_law_thing"]) (sc := defScope s_law) (by decide +kernel)) (fun _ _ _ _ _ => (pg_name (i := 9) sc_law.nd rfl (Or.inl rfl))) (fun _ _ _ _ _ => (pts_one (pt_cmpR (G.op_eqR (K := K) rfl (ok_Height_eq T) (hr.mono (by decide)) (bi_Height_eq T) pass0) (pv 5) (pv 9) (nomark _)))) (fun _ _ _ _ _ => (pv 9))) (pe_lst pa_nil) (nomark _)) (pss_one (ps_ret pe_bl)) pss_nil))))))))))
    (pss_one (ps_ret (pe_cmpR (G.opOr (G.op_eqG hr.units) (G.opOr (G.op_eqQ (ok_Height_eq T) (hr.mono (by decide)) (bi_Height_eq T) pass0) (G.op_eqQ (ok_Ratio_eq T) (hr.mono (by decide)) (bi_Ratio_eq T) pass0))) (G.pe_methP (G.pe_makeG (mk_Height T) (ok_Height_init T) (hr.mono (by first | decide | omega)) rfl (gl_Height T) (bi_Height_init T) .nil pass0 (pa_cons (G.pe_makeG (mk_Tone T) (ok_Tone_init T) (hr.mono (by first | decide | omega)) rfl (gl_Tone T) (bi_Tone_init T) .nil pass0 (pa_cons pe_int (pa_cons (pe_un G.un_negG pe_int) pa_nil))) (pa_cons (G.pe_makeG (mk_Note T) (ok_Term_init T) (hr.mono (by first | decide | omega)) rfl (gl_Note T) (bi_Term_init T) .nil pass0 (pa_cons pe_int pa_nil)) pa_nil))) (ok_Height_pitch T) (hr.mono (by first | decide | omega)) (bi_Height_pitch T) .nil pass0 (pa_cons pe_int (pa_cons (G.pe_makeG (mk_Ratio T) (ok_Ratio_init T) (hr.mono (by first | decide | omega)) rfl (gl_Ratio T) (bi_Ratio_init T) .nil pass0 (pa_cons pe_int (pa_cons pe_int pa_nil))) pa_nil))) pe_int (nomark _)))))), ?_⟩
    walk_at "start"
    walk_at "go"
    rename_i p l H1 _ k1 p1
    refine G.for_rng (fun i σ H' => ∃ v2 v3 v4 v5 v6 v7 v8 v9, σ = [some (.ref x), some (.ref p), v2, v3, v4, v5, v6, v7, v8, v9] ∧ PenL H' p l (100 * i)) ⟨_, _, _, _, _, _, _, _, rfl, p1⟩ ?_ ?_
    · rintro i σ H2 hi ⟨v2, v3, v4, v5, v6, v7, v8, v9, rfl, p2⟩
      walk_at "gob"
      all_goals first
        | (rename_i hc1 hc2; exfalso; apply hc2; simp [hc1.1, hc1.2]; done)
        | skip
      all_goals
        rename_i x0 H3 n3 k3 i3 H4 k4 y1 t1 y2 t2 y3 t3 y4 t4 u Hu nu ku eu l1 Hl nl kl el
        refine G.lc_lstG (xs := [V.non, .ref y1, .ref y2, .ref u, .int 0]) (σ0 := ?z0) (fun D i H' => H' D = some (.lst []) ∧ G.Kp Hl H') ?e ?h0 ?hl ?hs ?hd
        case e => (simp only [List.map_cons, List.map_nil, L2.wipe, List.set_cons_zero, List.set_cons_succ] <;> rfl)
        case h0 => exact fun D H2 hn k e => ⟨e, k⟩
        case hl => exact fun D j H' hj ⟨e, k⟩ => SqL.of (k _ _ el)
        case hs =>
          rintro D j v H' hv ⟨e, k⟩
          have od : OddH K H' v := by
            have hv := List.mem_of_getElem? hv
            refine OddH.kp k ?_
            simp only [List.mem_cons, List.not_mem_nil, or_false] at hv
            rcases hv with rfl | rfl | rfl | rfl | rfl
            · exact .inl rfl
            · exact .inr (.inr (.inr (.inl ⟨_, _, _, rfl, (t1.kp ku).kp kl⟩)))
            · exact .inr (.inr (.inr (.inr ⟨_, _, _, rfl, (t2.kp ku).kp kl⟩)))
            · exact .inr (.inr (.inl ⟨_, _, rfl, kl _ _ eu⟩))
            · exact .inr (.inl ⟨_, rfl⟩)
          walk_at "gob"
          all_goals exact ⟨e, k⟩
        case hd =>
          rintro D H' ⟨e, k⟩
          walk_at "gob"
          all_goals exact ⟨_, _, _, _, _, _, _, _, rfl, PenL.mono (n := 100 * i + 1 + 2 + 2 + 1 + 20 + 2 + 2) (by walk_at "hp") (by omega)⟩
    · rintro σ H2 ⟨v2, v3, v4, v5, v6, v7, v8, v9, rfl, p2⟩
      walk_at "gob"
      all_goals exact q _
end
end Lw

namespace Lw
open PySem PySem.Spec PyProof.Rows L2
theorem facts {P : Program} {w : World} {K : PySem.W.Frag} {h : Heap} {mg : Str → Option Value} {u : Addr} (X : K.In h) (N : h.Ns mainGlobals mg) (hfa : mg ("law" : Str) = some (.ref u)) (c : G.SaysX exs fns K) :
    ∃ fd : FuncData, (∀ (s : Shared) (v : Value), BindsTo s fd ⟨[v], []⟩ [("_law_script", v)]) ∧ ∀ base : Heap, K.In base → base.Ns mainGlobals mg → G.FnG P w K mg base CX0 14 u fd ["_law_script"] (sp_law K) := by
  have T : Tx K mg := G.Txt.mk' X N c
  have e := hfa.symm.trans (gl_law T)
  cases e
  have b := FunD.bindsA (ps := ["_law_script"]) (F_law T) fun _ _ _ _ _ _ us hl => match us, hl with | [_], _ => rfl
  exact ⟨_, fun s v => b s [v] rfl, fun base _ _ => ok_law T⟩
end Lw
open PySem PySem.W PySem.Calls PyProof.Rows
theorem PySem.Challenge.cw_anyfifth_k37_heights_holds : PySem.Challenge.rw_anyfifth_k37_heights.Holds := by
  w_on; o_law
  refine HandSHeadRun.head_any (r := OpenLaw.row PySem.Challenge.rw_anyfifth_k37_heights) (q := view (OpenLaw.row PySem.Challenge.rw_anyfifth_k37_heights).prog [89]) (H := Lw.hk) (ob := Lw.ob) (M := 20000) (loose := (("_wall" : Str) :: ("is_integer" : Str) :: ("is_between" : Str) :: ("FifthError" : Str) :: ("BadInput" : Str) :: ("Refused" : Str) :: ("BadRatio" : Str) :: ("BadFifth" : Str) :: ("BadNumber" : Str) :: ("BadPiece" : Str) :: ("BadTruth" : Str) :: ("BadTone" : Str) :: ("BadTerm" : Str) :: ("BadRegion" : Str) :: ("BadText" : Str) :: ("NoDivisor" : Str) :: ("TooMany" : Str) :: ("FIGURES" : Str) :: ("common_divisor" : Str) :: ("figures_in" : Str) :: ("integer_in" : Str) :: ("MOST_FIGURES_ratios" : Str) :: ("parts_of" : Str) :: ("need_divisor" : Str) :: ("Ratio" : Str) :: ("is_fifth" : Str) :: ("need_fifth" : Str) :: ("key_of" : Str) :: ("end_in" : Str) :: ("Piece" : Str) :: ("path" : Str) :: ("is_branch" : Str) :: ("word_of" : Str) :: ("truths_in" : Str) :: ("halves_of" : Str) :: ("branch_of" : Str) :: ("split" : Str) :: ("least" : Str) :: ("merged" : Str) :: ("reflected" : Str) :: ("levels_of" : Str) :: ("leaves_of" : Str) :: ("words_of" : Str) :: ("first_wrong" : Str) :: ("tree_in" : Str) :: ("turns_to" : Str) :: ("grown" : Str) :: ("NOTHING" : Str) :: ("ALL" : Str) :: ("kind_at" : Str) :: ("need_truth" : Str) :: ("need_end" : Str) :: ("need_near" : Str) :: ("bounded_region" : Str) :: ("up_from" : Str) :: ("Region" : Str) :: ("MOST_FIGURES_tones" : Str) :: ("Tone" : Str) :: ("MOST_NUMBER" : Str) :: ("MOST_TONE" : Str) :: ("need_note" : Str) :: ("Term" : Str) :: ("Note" : Str) :: ("Moving" : Str) :: ("is_small" : Str) :: ("Height" : Str) :: ("_law_pen" : Str) :: ("_law_draw" : Str) :: ("_law_pick" : Str) :: ("_law_fraction" : Str) :: ("_law_number" : Str) :: ("_law_term" : Str) :: ("_law_real_term" : Str) :: ("_law_tone" : Str) :: ("_law_real_height" : Str) :: ("_law_key" : Str) :: ("_law_pitch_right" : Str) :: ("_law_kept_right" : Str) :: [])) (d := HandSHeadRun.topDef (OpenLaw.row PySem.Challenge.rw_anyfifth_k37_heights).prog 89) (kwd := []) Lw.ob_eq
    (by kernel_rfl) (fun s => by kernel_rfl) Lw.run (by kernel_rfl) (by kernel_rfl) (by kernel_rfl) (by rfl) (by first | assumption | decide +kernel) (by decide +kernel) ⟨rfl, rfl, rfl, rfl, rfl, by decide +kernel⟩ ?hw ?hc
  case hw => w_witness2
  case hc =>
    refine G.walk_ofG (l := PySem.Challenge.rw_anyfifth_k37_heights) (n := 63) (k := 14) (x := "_law_script") (CX := L2.CX0) rfl (by decide) (by kernel_rfl) ⟨rfl, by decide, by decide⟩ ?F (fun _ _ _ _ z => z)
    intro w mg u h Y N hu
    obtain ⟨K, KX, c⟩ := Y
    have hl : mg ("law" : PySem.Str) = some (.ref u) := by
      have nm : (HandSHeadRun.topDef (OpenLaw.row PySem.Challenge.rw_anyfifth_k37_heights).prog 89).name = ("law" : PySem.Str) := by kernel_rfl
      rw [← nm]
      exact hu
    obtain ⟨fd, hb, hF⟩ := Lw.facts (P := (PySem.Challenge.rw_anyfifth_k37_heights).prog) (w := w) KX N hl c
    exact ⟨K, fd, Lw.sp_law K, KX, hb, fun H a ns le _ hS => ⟨a, ns, rfl, hS, le, fun _ => rfl⟩, hF⟩

