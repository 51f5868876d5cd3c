import PyProof.Rows.All
import Wide.All
import OpenK.AllK
import Wide.FinOn
import HandS.ForMost
import HandS.Exc
import HandS.ExcOwn
import HandS.TryOnly
import HandS.Lambda
import HandS.IsInst
import HandS.Wide
import HandS.ExcInit
import HandS.ExcField
import HandS.ClsMeth
import HandS.TryMany
import PyProof.EqLayable
import HandS.Style
import HandS.Strs
import HandS.TupAny
import HandS.Deep
import HandS.More
import HandS.Codes
import HandS.Defaults
import HandS.Walk
import HandS.RaiseMore
import KE.GoesMore
import KE.GoesEnum
import PyProof.Draws
import HandS.Steps
import HandS.Head0
import HandS.Head1
import HandS.Head2
import HandS.HeadEnd
import HandS.HeadHook1
import HandS.HeadHook2
import HandS.HeadHook3
import HandS.HeadHook4
import HandS.HeadWalk
import HandS.EndTab
import HandS.Words
import HandS.WordsExc
import HandS.Ends
import HandS.LawCells
import HandS.TupLe
import PySem.Challenge.RW_looseties_k68_exchanges_judged_step_by_s
set_option Elab.async false
set_option linter.all false
set_option maxRecDepth 100000
set_option maxHeartbeats 4000000
/-! L0: data as trees, what stands for them in the abstract heap, how heaps go on; one backward rule for each reading. Own work, for all claims. -/
namespace Lp
open PySem PySem.Spec PyProof.Rows L2 LamX

/-- data as a tree; an instance by its class and its fields in order -/
inductive Dt where
  | non | bl (b : Bool) | int (i : Int) | str (s : Str)
  | tup (l : List Dt) | lst (l : List Dt) | dct (l : List (Key × Dt)) | obj (C : Addr) (l : List (Str × Dt))

/-- a list, a tuple of the written part -/
def WrL (K : PySem.W.Frag) (a : Addr) (xs : List V) : Prop := ∃ (o : Obj) (its : Array Value) (n : Nat), K.lookup a = some o ∧ o.cls = .type "list" ∧ o.dict = none ∧ o.data = .seq its n ∧ its.size ≤ sizeLine ∧ Vals xs its.toList
def WrT (K : PySem.W.Frag) (a : Addr) (xs : List V) : Prop := ∃ (o : Obj) (its : Array Value) (n : Nat), K.lookup a = some o ∧ o.cls = .type "tuple" ∧ o.data = .seq its n ∧ its.size ≤ sizeLine ∧ Vals xs its.toList
/-- .. outside S, or written -/
def SqLS (K : PySem.W.Frag) (S : Addr → Prop) (H : Hp) (a : Addr) (xs : List V) : Prop := (¬ S a ∧ Rd H a (.lst xs)) ∨ WrL K a xs
def SqTS (K : PySem.W.Frag) (S : Addr → Prop) (H : Hp) (a : Addr) (xs : List V) : Prop := (¬ S a ∧ Rd H a (.tup xs)) ∨ WrT K a xs
theorem SqLS.sq {K : PySem.W.Frag} {S : Addr → Prop} {H : Hp} {a : Addr} {xs : List V} (h : SqLS K S H a xs) : SqL K H a xs := h.elim (fun h => .inl h.2) .inr
theorem SqTS.sq {K : PySem.W.Frag} {S : Addr → Prop} {H : Hp} {a : Addr} {xs : List V} (h : SqTS K S H a xs) : SqT K H a xs := h.elim (fun h => .inl h.2) .inr
mutual
/-- the value v stands for d; no address of S is met on the way -/
inductive Rep (K : PySem.W.Frag) (S : Addr → Prop) (H : Hp) : V → Dt → Prop
  | non : Rep K S H .non .non
  | bl (b : Bool) : Rep K S H (.bl b) (.bl b)
  | int (i : Int) : Rep K S H (.int i) (.int i)
  | str (x : Str) : Rep K S H (.str x) (.str x)
  | tup {a : Addr} {xs : List V} {ds : List Dt} : SqTS K S H a xs → RepL K S H xs ds → Rep K S H (.ref a) (.tup ds)
  | lst {a : Addr} {xs : List V} {ds : List Dt} : SqLS K S H a xs → RepL K S H xs ds → Rep K S H (.ref a) (.lst ds)
  | dct {a : Addr} {xs : List (Key × V)} {ds : List (Key × Dt)} : ¬ S a → H a = some (.dK xs) → RepK K S H xs ds → Rep K S H (.ref a) (.dct ds)
  | obj {a C dx : Addr} {xs : List (Str × V)} {ds : List (Str × Dt)} : ¬ S a → H a = some (.ins C dx xs) → RepF K S H xs ds → Rep K S H (.ref a) (.obj C ds)
inductive RepL (K : PySem.W.Frag) (S : Addr → Prop) (H : Hp) : List V → List Dt → Prop
  | nil : RepL K S H [] []
  | cons {v : V} {d : Dt} {vs : List V} {ds : List Dt} : Rep K S H v d → RepL K S H vs ds → RepL K S H (v :: vs) (d :: ds)
inductive RepK (K : PySem.W.Frag) (S : Addr → Prop) (H : Hp) : List (Key × V) → List (Key × Dt) → Prop
  | nil : RepK K S H [] []
  | cons {k : Key} {v : V} {d : Dt} {vs : List (Key × V)} {ds : List (Key × Dt)} : Rep K S H v d → RepK K S H vs ds → RepK K S H ((k, v) :: vs) ((k, d) :: ds)
inductive RepF (K : PySem.W.Frag) (S : Addr → Prop) (H : Hp) : List (Str × V) → List (Str × Dt) → Prop
  | nil : RepF K S H [] []
  | cons {k : Str} {v : V} {d : Dt} {vs : List (Str × V)} {ds : List (Str × Dt)} : Rep K S H v d → RepF K S H vs ds → RepF K S H ((k, v) :: vs) ((k, d) :: ds)
end

/-- a table is no other thing -/
def NoTbl (o : HO) : Prop := ∀ ps, o ≠ .tbl ps
/-- nothing but a table stands there -/
def Fre (H : Hp) (p : Addr) : Prop := ∀ o, H p = some o → ¬ NoTbl o
theorem Fre.of {H : Hp} {p : Addr} (h : H p = none) : Fre H p := fun o e => by rw [h] at e; cases e
/-- the heap goes on from H to H': what is tracked outside S stays, tables may grow -/
structure Nx (T : List (Addr × Str)) (S : Addr → Prop) (H H' : Hp) : Prop where
  le : ∀ b o, H b = some o → NoTbl o → ¬ S b → H' b = some o
  dom : ∀ b, Fre H' b → Fre H b
  tab : Tabs T H → Tabs T H'
section
variable {T : List (Addr × Str)} {S S' : Addr → Prop} {H H1 H2 : Hp} {K : PySem.W.Frag}
theorem Nx.refl : Nx T S H H := ⟨fun _ _ h _ _ => h, fun _ h => h, fun t => t⟩
theorem Nx.trans (a : Nx T S H H1) (b : Nx T S H1 H2) : Nx T S H H2 := ⟨fun c o h n s => b.le c o (a.le c o h n s) n s, fun c h => a.dom c (b.dom c h), fun t => b.tab (a.tab t)⟩
theorem Nx.mono (a : Nx T S H H1) (h : ∀ b, S b → S' b) : Nx T S' H H1 := ⟨fun c o e n s => a.le c o e n fun z => s (h c z), a.dom, a.tab⟩
theorem noT_lst {xs} : NoTbl (.lst xs) := fun _ z => nomatch z
theorem noT_tup {xs} : NoTbl (.tup xs) := fun _ z => nomatch z
theorem noT_dK {xs} : NoTbl (.dK xs) := fun _ z => nomatch z
theorem noT_ins {C dx xs} : NoTbl (.ins C dx xs) := fun _ z => nomatch z
theorem noT_own {x} : NoTbl (.own x) := fun _ z => nomatch z
theorem noT_frz {o u} : NoTbl (.frz o u) := fun _ z => nomatch z
theorem noT_xd {fs} : NoTbl (.xd fs) := fun _ z => nomatch z
/-- something new -/
theorem Nx.new {p : Addr} {o : HO} (hp : H p = none) (n : NoTbl o) : Nx T S H (upd H p o) := by
  refine ⟨fun b u e _ _ => by rw [upd_ne (ne_of_none e hp)]; exact e, fun b e => ?_, fun t => t.ext fun b u e => by rw [upd_ne (ne_of_none e hp)]; exact e⟩
  by_cases h : b = p
  · rw [h]; exact .of hp
  · intro u hu; exact e u (by rw [upd_ne h]; exact hu)
/-- lists, tuples, dicts, instances: no table, no code object -/
def Pln : HO → Prop
  | .tbl _ => False
  | .ext _ => False
  | _ => True
theorem Pln.noT {o : HO} (h : Pln o) : NoTbl o := fun ps z => by rw [z] at h; exact h
/-- a change at a place of S that holds no table -/
theorem Nx.put {p : Addr} {o u : HO} (hs : S p) (hp : H p = some u) (nu : Pln u) (no : Pln o := by trivial) : Nx T S H (upd H p o) := by
  refine ⟨fun b v e _ s => by rw [upd_ne (fun z => s (by rw [z]; exact hs))]; exact e, fun b e => ?_, fun t => ?_⟩
  · by_cases h : b = p
    · rw [h] at e; exact (e o upd_same no.noT).elim
    · intro v hv; exact e v (by rw [upd_ne h]; exact hv)
  · intro q hq
    obtain ⟨ps, h1, h2, h3⟩ := t q hq
    have ne : q.1 ≠ p := fun z => by
      rw [z, hp] at h1
      exact nu.noT ps (Option.some.inj h1)
    refine ⟨ps, by rw [upd_ne ne]; exact h1, h2, fun pos cv hc => ?_⟩
    obtain ⟨c, e1, e2⟩ := h3 pos cv hc
    refine ⟨c, e1, ?_⟩
    rw [upd_ne]
    · exact e2
    · intro z
      rw [z, hp] at e2
      have e3 := Option.some.inj e2
      rw [e3] at nu
      exact nu
/-- from the library's own «all but tables stay» -/
theorem Nx.of_ext (e : ExtN H H1) (t : Tabs T H1) : Nx T S H H1 := ⟨fun b o h n _ => e b o h n, fun b h o q n => h o (e b o q n) n, fun _ => t⟩

theorem Nx.lst (x : Nx T S H H1) {a : Addr} {xs : List V} (h : H a = some (.lst xs)) (s : ¬ S a) : H1 a = some (.lst xs) := x.le _ _ h noT_lst s
theorem Nx.rd (x : Nx T S H H1) {a : Addr} {u : HO} (n : NoTbl u) (s : ¬ S a) (h : Rd H a u) : Rd H1 a u := by
  rcases h with h | ⟨o, h⟩
  · exact .inl (x.le _ _ h n s)
  · exact .inr ⟨o, x.le _ _ h noT_frz s⟩
theorem Nx.sqL (x : Nx T S H H1) {a : Addr} {xs : List V} (h : SqLS K S H a xs) : SqLS K S H1 a xs := h.elim (fun h => .inl ⟨h.1, x.rd noT_lst h.1 h.2⟩) .inr
theorem Nx.sqT (x : Nx T S H H1) {a : Addr} {xs : List V} (h : SqTS K S H a xs) : SqTS K S H1 a xs := h.elim (fun h => .inl ⟨h.1, x.rd noT_tup h.1 h.2⟩) .inr
mutual
theorem Rep.nx (x : Nx T S H H1) : ∀ {v : V} {d : Dt}, Rep K S H v d → Rep K S H1 v d
  | _, _, .non => .non
  | _, _, .bl b => .bl b
  | _, _, .int i => .int i
  | _, _, .str y => .str y
  | _, _, .tup h r => .tup (x.sqT h) (RepL.nx x r)
  | _, _, .lst h r => .lst (x.sqL h) (RepL.nx x r)
  | _, _, .dct s h r => .dct s (x.le _ _ h noT_dK s) (RepK.nx x r)
  | _, _, .obj s h r => .obj s (x.le _ _ h noT_ins s) (RepF.nx x r)
theorem RepL.nx (x : Nx T S H H1) : ∀ {v : List V} {d : List Dt}, RepL K S H v d → RepL K S H1 v d
  | _, _, .nil => .nil
  | _, _, .cons h r => .cons (Rep.nx x h) (RepL.nx x r)
theorem RepK.nx (x : Nx T S H H1) : ∀ {v : List (Key × V)} {d : List (Key × Dt)}, RepK K S H v d → RepK K S H1 v d
  | _, _, .nil => .nil
  | _, _, .cons h r => .cons (Rep.nx x h) (RepK.nx x r)
theorem RepF.nx (x : Nx T S H H1) : ∀ {v : List (Str × V)} {d : List (Str × Dt)}, RepF K S H v d → RepF K S H1 v d
  | _, _, .nil => .nil
  | _, _, .cons h r => .cons (Rep.nx x h) (RepF.nx x r)
end
/-- S may be another one where what is tracked outside S stays outside -/
structure Sub (S S' : Addr → Prop) (H : Hp) : Prop where
  le : ∀ b o, H b = some o → NoTbl o → ¬ S b → ¬ S' b
theorem Sub.of (h : ∀ b, S' b → S b) : Sub S S' H := ⟨fun b _ _ _ n z => n (h b z)⟩
theorem Sub.rd (x : Sub S S' H) {a : Addr} {u : HO} (n : NoTbl u) (s : ¬ S a) (h : Rd H a u) : ¬ S' a := by
  rcases h with h | ⟨o, h⟩
  · exact x.le _ _ h n s
  · exact x.le _ _ h noT_frz s
theorem Sub.sqL (x : Sub S S' H) {a : Addr} {xs : List V} (h : SqLS K S H a xs) : SqLS K S' H a xs := h.elim (fun h => .inl ⟨x.rd noT_lst h.1 h.2, h.2⟩) .inr
theorem Sub.sqT (x : Sub S S' H) {a : Addr} {xs : List V} (h : SqTS K S H a xs) : SqTS K S' H a xs := h.elim (fun h => .inl ⟨x.rd noT_tup h.1 h.2, h.2⟩) .inr
mutual
theorem Rep.sub (x : Sub S S' H) : ∀ {v : V} {d : Dt}, Rep K S H v d → Rep K S' H v d
  | _, _, .non => .non
  | _, _, .bl b => .bl b
  | _, _, .int i => .int i
  | _, _, .str y => .str y
  | _, _, .tup h r => .tup (x.sqT h) (RepL.sub x r)
  | _, _, .lst h r => .lst (x.sqL h) (RepL.sub x r)
  | _, _, .dct s h r => .dct (x.le _ _ h noT_dK s) h (RepK.sub x r)
  | _, _, .obj s h r => .obj (x.le _ _ h noT_ins s) h (RepF.sub x r)
theorem RepL.sub (x : Sub S S' H) : ∀ {v : List V} {d : List Dt}, RepL K S H v d → RepL K S' H v d
  | _, _, .nil => .nil
  | _, _, .cons h r => .cons (Rep.sub x h) (RepL.sub x r)
theorem RepK.sub (x : Sub S S' H) : ∀ {v : List (Key × V)} {d : List (Key × Dt)}, RepK K S H v d → RepK K S' H v d
  | _, _, .nil => .nil
  | _, _, .cons h r => .cons (Rep.sub x h) (RepK.sub x r)
theorem RepF.sub (x : Sub S S' H) : ∀ {v : List (Str × V)} {d : List (Str × Dt)}, RepF K S H v d → RepF K S' H v d
  | _, _, .nil => .nil
  | _, _, .cons h r => .cons (Rep.sub x h) (RepF.sub x r)
end
end
end Lp

set_option Elab.async false
set_option linter.all false
set_option maxRecDepth 100000
set_option maxHeartbeats 4000000
/-! L1: exceptions of the program: an __init__ that calls its base's by the class, several clauses with and without a name. Own work. -/
namespace Lp
open PySem PySem.Spec PyProof.Rows L2 LamX
/-- what the written part says of an own base class at CS whose __init__ is ValueError's -/
structure StBase (K : PySem.W.Frag) (CS : Addr) : Prop where
  rd : ClX.CRead K CS (.type "type")
  at_ : PySem.W.findCls K (.ref CS) (.type "type") "__init__" = some (.val (.builtin "ValueError.__init__"))
section
variable {X : Cx} {e : Expr} {es : List Expr} {ta : TA} {p1 p2 pos : Pos} {x : Str} {CS : Addr}
theorem pe_stinit {pl : Sem Bool} (hg : Gl X x) (hm : X.mg x = some (.ref CS)) (B : StBase X.K CS) (ha : PA X (e :: es) ta) (hdb : (x == ("__debug__" : Str)) = false := by decide)
    (hc : eval (.Call (.Attribute (.Name x p1) "__init__" p2) (e :: es) [] pos) X.env = (do
      let ov ← eval (.Name x p1) X.env
      standAt p2.atName
      let (f, first) ← holding [ov] (getMethod ov "__init__" pl)
      callWith pos f first (backTo pos (starEach (e :: es) X.env)) (backToKw pos (keywordEach [] X.env))) := by rfl)
    (he : starEach (e :: es) X.env = (false, eval e X.env) :: starEach es X.env := by rfl) (hpl : (backTo pos (starEach es X.env)).any (·.1) = false := by rfl) :
    PE X (.Call (.Attribute (.Name x p1) "__init__" p2) (e :: es) [] pos) (tVeI X.K ta) := by
  refine ⟨fun pins s σ H Q I h => ?_⟩
  refine PySem.W.methodCall_KW (ld_glob I hg hm ?_ hdb) hc
  refine PySem.W.method_cls I.kIn B.rd.ga (PySem.W.cls_value I.kIn B.rd.rd B.at_ rfl ?_)
  show wpAny _ _ (callWith pos (Value.builtin "ValueError.__init__") [] (backTo pos (starEach (e :: es) X.env)) []) _ _ _
  refine PyProof.Rows.callWith_method1 (thn (ha.run pos pins _ σ H _ (I.tok _) h) fun us s1 ⟨vs, H1, I1, r1, a, C, ws, ev, hl, T, ea, q⟩ => ?_) he hpl
  subst ev
  cases r1 with
  | @cons _ u0 _ ur ra rw' =>
    obtain rfl : u0 = Value.ref a := ra
    have hlen : ur.length ≤ sizeLine := by
      rw [← Paired.length rw', sizeLine_eq]
      omega
    exact oinit_ok T I1 ea hlen fun s' J => ⟨.non, H1, J, rfl, q⟩
end

/-! ### try .. except A as n: .. except B: .. -/
/-- one clause: what it names, where the error goes (a slot, or nowhere), its suite -/
abbrev Cl := Value × Option Nat × (Addr → Value → Option Addr → TS)
/-- the suite's ends where the error stood at slot i: the slot is emptied -/
def unAs (i : Option Nat) (D : Ends) : Ends := match i with
  | none => D
  | some i => { nx := fun σ H => D.nx (σ.set i none) H, rt := D.rt, bk := fun σ H => D.bk (σ.set i none) H, ct := fun σ H => D.ct (σ.set i none) H }
def toAs (i : Option Nat) (a : Addr) (σ : L2.St) : L2.St := match i with
  | none => σ
  | some i => σ.set i (some (.ref a))
def wCls (K : PySem.W.Frag) (Wout : WX) (D : Ends) : List Cl → WX
  | [] => Wout
  | (c, i, ts) :: r => fun cls d σ H => ∃ b, PySem.W.exmOne K cls c = some b ∧ (b = true → ∀ a, H a = none → ts a cls d (unAs i D) (toAs i a σ) H) ∧ (b = false → wCls K Wout D r cls d σ H)
/-- the name of a clause: none, or a local at its slot -/
def NmOk (X : Cx) : Option Str → Option Nat → Prop
  | none, none => True
  | some n, some i => X.N.Nodup ∧ X.N[i]? = some n ∧ X.env.kindOf n = some .local
  | _, _ => False
inductive ClsOk (X : Cx) : List ExceptHandler → List Cl → Prop
  | nil : ClsOk X [] []
  | cons {x : Str} {c : Value} {nm : Option Str} {i : Option Nat} {ts : Addr → Value → Option Addr → TS} {b₀ : Stmt} {suite : List Stmt} {np pos' : Pos} {hds : List ExceptHandler} {l : List Cl} (hc : Names X x c) (hn : NmOk X nm i)
      (hsu : ∀ (a : Addr) (oe : Obj) (cls : Value) (d : Option Addr) (pn : List (Addr × Obj)), Zc cls d oe → (∃ vs, oe.data = .fields vs) → PSs (X.suite a ((a, oe) :: pn)) (b₀ :: suite) (ts a cls d)) (r : ClsOk X hds l) :
      ClsOk X (.ExceptHandler (some (.Name x np)) nm (b₀ :: suite) pos' :: hds) ((c, i, ts) :: l)
section
variable {X : Cx} {body : List Stmt} {h₀ : ExceptHandler} {hds : List ExceptHandler} {l : List Cl} {pos : Pos} {tb : WX → TS} {Wout : WX}
theorem ps_try_cls (hs : X.stack = X.env :: X.outer) (hf : X.env.frame = some X.env.locals) (tk : Takes X Wout)
    (hb : ∀ (W : WX) (pn : List (Addr × Obj)) (xe : Value → Shared → Prop), Takes (X.tr pn xe) W → PassesOwn (model X.prog X.w) X.A X.env xe → PSs (X.tr pn xe) body (tb W))
    (hh : ClsOk X (h₀ :: hds) l) : PS X (.Try body (h₀ :: hds) [] [] pos) (fun D σ H => tb (wCls X.K Wout D l) D σ H) := by
  refine ⟨fun pins s σ H D I h => ?_⟩
  have ok := I.ok
  have hfr : X.A.frames = some (X.env :: X.outer) := by rw [ok.frames, hs]
  refine wpAny_Try_except ?_
  refine wpAny_mono ((hb (wCls X.K Wout D l) (X.pn ++ pins) (fun e s₁ => wpAny (model X.prog X.w) X.A (noteFrame e X.env) (fun _ s₂ => wpAny (model X.prog X.w) X.A (setFlight e none) (fun _ s₃ =>
    wpAny (model X.prog X.w) X.A (handleBy e X.env (h₀ :: hds)) (SP X pins D) X.xe s₃) X.xe s₂) X.xe s₁) (fun u s' xx => ?_) PassesOwn.looking).run [] s σ H D (I.toTry _) h) (fun f s1 hsp => ?_) (fun e s1 he => he)
  · obtain ⟨a, B, sI, pins', σ', H', cls, d, rfl, J', nb, up, sky, na, os, ag, w⟩ := xx
    have J : Inv X pins σ' H' sI := J'.ofTry ok
    have sky' : Sky B (X.env :: X.outer) a (Zc cls d) X.env.locals s'.heap := by rw [← hs]; exact sky
    show wpAny (model X.prog X.w) X.A (noteFrame (.ref a) X.env) _ _ _
    refine Sky.land Zc.steady hfr hf sky' fun h3 fl3 up3 => ?_
    have J3 : Inv X pins σ' H' { s' with heap := h3 } := J.landed nb fl3.1 (up.trans up3) os ag
    obtain ⟨oe3, vs3, he3, hz3, hd3⟩ := fl3.there
    have notFr : ∀ {h : Heap} {o : Obj} {vs : Array Value}, h.FunFrames B (X.env :: X.outer) → h.get? a = some o → o.data = .fields vs → a ∉ frs (X.env :: X.outer) := fun {h o vs} ff e dd hm => by
      obtain ⟨_, o', e', hnf⟩ := ff.mem hm
      rw [e] at e'; cases e'
      exact hnf _ dd
    have nfr := notFr fl3.2.2.1 he3 hd3
    have nL : a ≠ X.env.locals := fun z => nfr (List.mem_filterMap.mpr ⟨X.env, List.mem_cons_self, by rw [hf, z]⟩)
    have nF : a ∉ X.fs := fun hm => by
      obtain ⟨e, he, q⟩ := List.mem_filterMap.mp hm
      exact nfr (List.mem_filterMap.mpr ⟨e, List.mem_cons_of_mem _ he, q⟩)
    have S3 := J3.suite he3 hd3 na nL nF
    have go : ∀ {hds' : List ExceptHandler} {l' : List Cl}, ClsOk X hds' l' → wCls X.K Wout D l' cls d σ' H' →
        wpAny (model X.prog X.w) X.A (handleBy (.ref a) X.env hds') (SP X pins D) X.xe { s' with heap := h3 } := by
      intro hds' l' hk
      induction hk with
      | nil =>
        intro w
        refine wpAny_handleBy_nil ?_
        obtain ⟨k1, k2, k3, oe, vs, T, oT, ts', he, hz, hd, h1, hr⟩ := id fl3
        unfold PySem.passOn
        refine wpAny_bind (wpAny_field he hd h1 ?_)
        rw [if_neg (show ¬ ((Value.ref T == Value.none) = true) from by simp)]
        have fin : wpAny (model X.prog X.w) X.A (setFlight (.ref a) X.env.frame) (fun _ s4 => wpAny (model X.prog X.w) X.A (throw (.ref a) : Sem Flow) (SP X pins D) X.xe s4) X.xe { s' with heap := h3 } := by
          rw [hf]
          refine HandSPX.setFlight_upZ fl3 fun h4 hh4 up4 => wpAny_throw (tk _ _ ?_)
          exact ⟨a, B, sI, pins, σ', H', cls, d, rfl, J, nb, (up.trans up3).trans up4, .inr (.inr (by rw [hs]; exact hh4)), na, os, ag, w⟩
        first
          | exact wpAny_bind (wpAny_pure (wpAny_bind fin))
          | exact wpAny_bind fin
      | @cons x c nm i ts b₀ suite np pos' hds2 l2 hc hn hsu r ih =>
        intro w
        obtain ⟨b, hb1, hyes, hno⟩ := w
        refine wpAny_handleBy_cons (codeAny_handlers_test ?_) (by intro q; cases q)
        have LT : PySem.W.Looks (model X.prog X.w) h3 (typeOf (.ref a)) cls := fun A Q E s k q => wpAny_typeOf_ref (k _ _ he3) (by rw [hz3.1]; exact q)
        have LM := PySem.W.exm_one (M := model X.prog X.w) (J3.kIn) LT hb1
        have test : ∀ {Q : Value → Shared → Prop} {E : Value → Shared → Prop}, Q c { s' with heap := h3 } → wpAny (model X.prog X.w) (X.A.mark (some (.ref a))) (eval (.Name x np) X.env) Q E { s' with heap := h3 } := fun {Q E} q => by
          obtain ⟨hg, hdbg, hm | ⟨hm, hv, hnn⟩⟩ := hc
          · exact ld_glob (X := X.suite a ((a, oe3) :: (X.pn ++ pins))) S3 hg hm q hdbg
          · exact ld_blt (X := X.suite a ((a, oe3) :: (X.pn ++ pins))) S3 hg hm hv q hnn hdbg
        refine test (LM.here ?_)
        cases b with
        | true =>
          cases nm with
          | none =>
            cases i with
            | some i => exact False.elim hn
            | none =>
              refine codeAny_handlers_suite ?_
              refine HandSPX.lands_againZ fl3 fun h4 fl4 up4 => ?_
              have J4 : Inv X pins σ' H' { s' with heap := h4 } := J.landed nb fl4.1 ((up.trans up3).trans up4) os ag
              obtain ⟨oe4, vs4, he4, hz4, hd4⟩ := fl4.there
              have S4 := J4.suite he4 hd4 na nL nF
              refine wpAny_mono ((hsu a oe4 cls d (X.pn ++ pins) hz4 ⟨_, hd4⟩).run [] _ _ H' _ S4 (hyes rfl a na)) (fun f s6 hsp => ?_) (fun _ _ z => False.elim z)
              cases f with
              | next =>
                obtain ⟨σ6, H6, S6, q6⟩ := hsp
                exact ⟨_, _, S6.unsuite ok, q6⟩
              | brk =>
                obtain ⟨σ6, H6, S6, q6⟩ := hsp
                exact ⟨_, _, S6.unsuite ok, q6⟩
              | cont =>
                obtain ⟨σ6, H6, S6, q6⟩ := hsp
                exact ⟨_, _, S6.unsuite ok, q6⟩
              | ret u =>
                obtain ⟨v6, σ6, H6, S6, r6, q6⟩ := hsp
                exact ⟨_, _, _, S6.unsuite ok, r6, q6⟩
          | some n =>
            cases i with
            | none => exact False.elim hn
            | some i =>
              obtain ⟨hN, hi, hln⟩ := hn
              have hloc : Loc X.env.scope n := .inl hln
              refine codeAny_handlers_suite_as ?_
              refine HandSPX.lands_againZ fl3 fun h4 fl4 up4 => ?_
              have J4 : Inv X pins σ' H' { s' with heap := h4 } := J.landed nb fl4.1 ((up.trans up3).trans up4) os ag
              obtain ⟨oe4, vs4, he4, hz4, hd4⟩ := fl4.there
              have S4 := J4.suite he4 hd4 na nL nF
              refine store_ok (X := X.suite a ((a, oe4) :: (X.pn ++ pins))) (v := .ref a) S4 hN hi hloc rfl (fun s5 S5 => ?_) (.inr hln)
              refine wpAny_mono ((hsu a oe4 cls d (X.pn ++ pins) hz4 ⟨_, hd4⟩).run [] s5 _ H' _ S5 (hyes rfl a na)) (fun f s6 hsp => ?_) (fun _ _ z => False.elim z)
              have end_ : ∀ {σ6 : L2.St} {H6 : Hp} {Q : Shared → Prop}, Inv (X.suite a ((a, oe4) :: (X.pn ++ pins))) [] σ6 H6 s6 → (∀ s7, Inv X pins (σ6.set i none) H6 s7 → Q s7) →
                  wpAny (model X.prog X.w) X.A (do bindName X.env n .none; unbindBehindTheSuite X.env n pos') (fun _ s7 => Q s7) X.xe s6 := fun {σ6 H6 Q} S6 hq => gone_ok (S6.unsuite ok) hN hi hln hq
              cases f with
              | next =>
                obtain ⟨σ6, H6, S6, q6⟩ := hsp
                exact end_ S6 fun s7 J7 => ⟨_, _, J7, q6⟩
              | brk =>
                obtain ⟨σ6, H6, S6, q6⟩ := hsp
                exact end_ S6 fun s7 J7 => ⟨_, _, J7, q6⟩
              | cont =>
                obtain ⟨σ6, H6, S6, q6⟩ := hsp
                exact end_ S6 fun s7 J7 => ⟨_, _, J7, q6⟩
              | ret u =>
                obtain ⟨v6, σ6, H6, S6, r6, q6⟩ := hsp
                exact end_ S6 fun s7 J7 => ⟨_, _, _, J7, r6, q6⟩
        | false =>
          show wpAny _ X.A (handleBy (.ref a) X.env hds2) _ _ _
          exact ih (hno rfl)
    exact go hh w
  · cases f with
    | next =>
      obtain ⟨σ', H', J', q⟩ := hsp
      exact wpAny_execs_nil ⟨σ', H', J'.ofTry ok, q⟩
    | brk =>
      obtain ⟨σ', H', J', q⟩ := hsp
      exact ⟨σ', H', J'.ofTry ok, q⟩
    | cont =>
      obtain ⟨σ', H', J', q⟩ := hsp
      exact ⟨σ', H', J'.ofTry ok, q⟩
    | ret u =>
      obtain ⟨v, σ', H', J', r, q⟩ := hsp
      exact ⟨v, σ', H', J'.ofTry ok, r, q⟩
end
end Lp

set_option Elab.async false
set_option linter.all false
set_option maxRecDepth 100000
set_option maxHeartbeats 4000000
/-! L2h: a def that is handed a lambda and tells («told», value), or a caught error by its name and field. Own work. -/
namespace Lp
open PySem PySem.Spec PyProof.Rows L2 LamX
/-- a clause of such a def: the class at C, the word, the field that is told (none: None) -/
abbrev HCl := Addr × Str × Option Str
def hCh (K : PySem.W.Frag) (Q : VK) : List HCl → XK
  | [] => fun _ _ _ => False
  | (C, nm, fo) :: r => fun cls d H => ∃ b, PySem.W.exmOne K cls (.ref C) = some b ∧
      (b = true → (match fo with
        | some f => cls = .ref C ∧ ∃ (dd : Addr) (fs : List (Str × V)) (v : V), d = some dd ∧ H dd = some (.xd fs) ∧ fs.lookup f = some v ∧ ∀ p, H p = none → Q (.ref p) (upd H p (.tup [.str nm, v]))
        | none => ∀ p, H p = none → Q (.ref p) (upd H p (.tup [.str nm, .non])))) ∧ (b = false → hCh K Q r cls d H)
/-- what such a def makes of the lambda's reading -/
def TTh (K : PySem.W.Frag) (w : Str) (L : List HCl) : (XK → Hp → VK → Prop) → Hp → VK → Prop := fun tl H Q =>
  tl (hCh K Q L) H fun v H1 => [V.str w, v].length ≤ sizeLine ∧ ∀ p, H1 p = none → Q (.ref p) (upd H1 p (.tup [.str w, v]))
def clOf (i : Nat) : HCl → Cl
  | (C, nm, some f) => (.ref C, some i, fun a cls d => tRet (tTup (tCons (tC (.str nm)) (tCons (tXf a cls d C f (tVar i)) tNil))))
  | (C, nm, none) => (.ref C, none, fun _ _ _ => tRet (tTup (tCons (tC (.str nm)) (tCons (tC .non) tNil))))
theorem two_size : 2 ≤ sizeLine := by rw [sizeLine_eq]; decide
theorem hCh_w {K : PySem.W.Frag} {D : Ends} {i : Nat} : ∀ (L : List HCl) {cls : Value} {d : Option Addr} {σ : L2.St} {H : Hp}, i < σ.length → hCh K D.rt L cls d H → wCls K (fun _ _ _ _ => False) D (L.map (clOf i)) cls d σ H
  | [], _, _, _, _, _, h => h
  | (C, nm, fo) :: r, cls, d, σ, H, hl, h => by
    obtain ⟨b, e, hy, hn⟩ := h
    cases fo with
    | some f =>
      refine ⟨b, e, fun hb a ha => ?_, fun hb => hCh_w r hl (hn hb)⟩
      obtain ⟨ec, dd, fs, v, ed, e1, e2, q⟩ := hy hb
      show tTup _ _ _ _
      refine ⟨.ref a, ?_, rfl, ec, dd, fs, v, ed, e1, e2, two_size, q⟩
      show (σ.set i (some (V.ref a)))[i]? = _
      rw [List.getElem?_set_self hl]
    | none =>
      refine ⟨b, e, fun hb a ha => ?_, fun hb => hCh_w r hl (hn hb)⟩
      exact ⟨two_size, hy hb⟩
theorem takes_len {X : Cx} {W : WX} (tk : Takes X W) : Takes X (fun cls d σ H => σ.length = X.N.length → W cls d σ H) := fun u s' ⟨a, B, sI, pins, σ, H, cls, d, e, I, nb, up, sky, na, os, ag, w⟩ =>
  tk u s' ⟨a, B, sI, pins, σ, H, cls, d, e, I, nb, up, sky, na, os, ag, w I.len⟩
section
variable {X : Cx}
/-- the clauses' text -/
theorem heard_gives {Ng : List Str} {x a q tw : Str} {sg : Scope} {g : Addr} {cdg : Value} {h₀ : ExceptHandler} {hds : List ExceptHandler} {L : List HCl} {i j0 k0 : Nat} {p0 p1 p2 p3 p4 p5 : Pos} (hi : i < Ng.length) (hi0 : 0 < Ng.length)
    (hcl : ∀ (s : Shared) (H : Hp), ClsOk (cxOf C8.CX0 X.prog X.w X.K X.mg X.base Ng x sg g cdg X.A X.stack s H C8.E0).nox (h₀ :: hds) (L.map (clOf i))) :
    GivesTo X Ng x sg g cdg [.Try [.Return (some (.Tuple [.Constant (.str tw) j0 p0, .Call (.Name a p1) [] [] p2] k0 p3)) p4] (h₀ :: hds) [] [] p5] a q (TTh X.K tw L) := by
  intro f c' s H Q tl act hc h
  refine ⟨_, pss_one (ps_try_cls (X := (cxOf C8.CX0 X.prog X.w X.K X.mg X.base Ng x sg g cdg X.A X.stack s H C8.E0).nox) (Wout := fun _ _ _ _ => False) (l := L.map (clOf i))
      (tb := fun W D σ H => ∃ Ech : XK, (∀ cls d σ' H', Ech cls d H' → σ'.length = Ng.length → W cls d σ' H') ∧ σ[0]? = some (some (.ref f)) ∧ H c' = some (CodeO c' q) ∧ tl Ech H fun v H1 => [V.str tw, v].length ≤ sizeLine ∧ ∀ p, H1 p = none → D.rt (.ref p) (upd H1 p (.tup [.str tw, v])))
      rfl rfl LamX.takes0 (fun W pn xe tk _ => ?_) (hcl s H)), ?_⟩
  · refine ⟨fun pins s' σ H' D I h' => ?_⟩
    obtain ⟨Ech, hW, h1, h2, h3⟩ := h'
    have hp := act (fun cls d σ H => σ.length = Ng.length → W cls d σ H) pn xe Ech p1 p2 (takes_len tk) (fun cls d σ' H' e => hW cls d σ' H' e)
    have hq := pss_one (ps_ret (pos := p4) (pe_tup (pos := p3) (x1 := k0) (pa_cons (pe_str (x := tw) (j := j0) (pos := p0)) (pa_cons hp pa_nil))))
    exact hq.run pins s' σ H' D I ⟨h1, h2, by
      refine (?_ : tl Ech H' _)
      exact h3⟩
  · refine ⟨hCh X.K Q L, fun cls d σ' H' e hl => hCh_w (D := { nx := fun _ H' => Q .non H', rt := Q }) L (by rw [hl]; exact hi) e, ?_, hc, h⟩
    show (L2.start Ng [V.ref f])[0]? = _
    rfl
end
end Lp

set_option Elab.async false
set_option linter.all false
set_option maxRecDepth 100000
set_option maxHeartbeats 4000000
/-! L3: one rule for an operator whatever its operands are; the readings as backward rules; a def, a method, a maker with what a caller asks of it. Own work. -/
namespace Lp
open PySem PySem.Spec PyProof.Rows L2 LamX
abbrev Fg := PySem.W.Frag
/-! ### operators -/
def uAdd (K : Fg) : R2 := fun x y H Q => rI0 (fun i j => .int (i + j)) x y H Q ∨ ((∃ i j, x = .str i ∧ y = .str j ∧ i.length + j.length ≤ sizeLine ∧ Q (.str (i ++ j)) H) ∨ (rCat x y H Q ∨ rCatA K x y H Q))
def uSub : R2 := rI0 fun i j => .int (i - j)
def uMul : R2 := fun x y H Q => rI CMul (fun i j => .int (i * j)) x y H Q ∨ (rI CMulW (fun i j => .int (i * j)) x y H Q ∨ rRep x y H Q)
def uMod : R2 := rI (fun _ j => 0 < j) fun i j => .int (i % j)
def uFdiv : R2 := rI CDivW fun i j => .int (i / j)
def uPow : R2 := rI CPow fun i j => .int (i ^ j.toNat)
def rDctEq : R2 := fun x y H Q => ∃ a b kvs, x = .ref a ∧ y = .ref b ∧ H a = some (.dK kvs) ∧ H b = some (.dK kvs) ∧ (kvs.map (·.1)).Nodup ∧ (∀ p ∈ kvs, flatB p.2 = true) ∧ Q (.bl true) H
def uEq (K : Fg) : R2 := fun x y H Q => rEq x y H Q ∨ (rEqD K x y H Q ∨ rDctEq x y H Q)
def uNe (K : Fg) : R2 := fun x y H Q => rNe x y H Q ∨ rNeD K x y H Q
def rLtS : R2 := fun x y H Q => ∃ i j, x = .str i ∧ y = .str j ∧ Q (.bl (decide (i.cps.toList < j.cps.toList))) H
def uLt : R2 := fun x y H Q => rI0 (fun i j => .bl (decide (i < j))) x y H Q ∨ rLtS x y H Q
def uLe : R2 := rI0 fun i j => .bl (decide (i ≤ j))
def uGt : R2 := rI0 fun i j => .bl (decide (j < i))
def uGe : R2 := rI0 fun i j => .bl (decide (j ≤ i))
def uIsN : R2 := fun x y H Q => y = .non ∧ Q (.bl (decide (x = .non))) H
def uNotN : R2 := fun x y H Q => y = .non ∧ Q (.bl (!decide (x = .non))) H
def uIn (K : Fg) : R2 := fun x y H Q => rIn K false x y H Q ∨ rInD K x y H Q
def uNin (K : Fg) : R2 := fun x y H Q => rIn K true x y H Q ∨ rNotInD K x y H Q
section
variable {X : Cx}
theorem op_uAdd : OpR X (binaryOp .Add) (uAdd X.K) := op_add.or (op_add_str.or (op_cat.or op_catA))
theorem op_uSub : OpR X (binaryOp .Sub) uSub := op_sub
theorem op_uMul : OpR X (binaryOp .Mult) uMul := op_mul.or (op_mulW.or op_rep)
theorem op_uMod : OpR X (binaryOp .Mod) uMod := op_mod
theorem op_uFdiv : OpR X (binaryOp .FloorDiv) uFdiv := op_fdivW
theorem op_uPow : OpR X (binaryOp .Pow) uPow := op_pow
theorem op_uEq (hu : X.A.units + 64 < cLine) : OpR X (compareOp .Eq) (uEq X.K) := op_eq.or ((op_eqD hu).or (op_eq_dict (Nat.lt_of_le_of_lt (by omega) hu)))
theorem op_uNe (hu : X.A.units + 64 < cLine) : OpR X (compareOp .NotEq) (uNe X.K) := op_ne.or (op_neD hu)
theorem op_uLt : OpR X (compareOp .Lt) uLt := op_lt.or op_lt_str
theorem op_uLe : OpR X (compareOp .LtE) uLe := op_le
theorem op_uGt : OpR X (compareOp .Gt) uGt := op_gt
theorem op_uGe : OpR X (compareOp .GtE) uGe := op_ge
theorem op_uIsN : OpR X (compareOp .Is) uIsN := op_isN
theorem op_uNotN : OpR X (compareOp .IsNot) uNotN := op_notN
theorem op_uIn (hu : X.A.units + 65 < cLine) : OpR X (compareOp .In) (uIn X.K) := op_in_seq.or (op_inD hu)
theorem op_uNin (hu : X.A.units + 65 < cLine) : OpR X (compareOp .NotIn) (uNin X.K) := op_notIn_seq.or (op_notInD hu)
theorem units65 {k : Nat} {A : Around} (r : Room k A) : A.units + 65 < cLine := by have := r.un; omega
end
/-! ### calls of built-ins -/
def uLen (K : Fg) : List V → Hp → VK → Prop := fun xs H Q => (∃ p ys, xs = [.ref p] ∧ (SqL K H p ys ∨ SqT K H p ys) ∧ Q (.int ys.length) H) ∨ ((∃ z, xs = [.str z] ∧ z.length ≤ sizeLine ∧ Q (.int z.length) H) ∨ ∃ x n, xs = [x] ∧ LenV K x H n ∧ Q (.int n) H)
def uList (K : Fg) : List V → Hp → VK → Prop := fun xs H Q => ∃ p ys, xs = [.ref p] ∧ (SqL K H p ys ∨ SqT K H p ys) ∧ ∀ l, H l = none → Q (.ref l) (upd H l (.lst ys))
def uTuple (K : Fg) : List V → Hp → VK → Prop := fun xs H Q => ∃ p ys, xs = [.ref p] ∧ ((SqL K H p ys ∧ ∀ l, H l = none → Q (.ref l) (upd H l (.tup ys))) ∨ (SqT K H p ys ∧ Q (.ref p) H))
def uInt : List V → Hp → VK → Prop := fun xs H Q => (∃ i, xs = [.int i] ∧ Q (.int i) H) ∨ ∃ k, xs = [.bl k] ∧ Q (.int (if k then 1 else 0)) H
def uBool : List V → Hp → VK → Prop := fun xs H Q => (∃ i, xs = [.int i] ∧ Q (.bl (i != 0)) H) ∨ ∃ k, xs = [.bl k] ∧ Q (.bl k) H
def uMax2 : List V → Hp → VK → Prop := fun xs H Q => ∃ i j, xs = [.int i, .int j] ∧ Q (.int (if j > i then j else i)) H
section
variable {X : Cx}
theorem cl_uLen : CallR X (.builtin "len") (uLen X.K) := call_len_seq.or (call_len_str.or call_len)
theorem cl_uList : CallR X (.type "list") (uList X.K) := call_list_of
theorem cl_uTuple : CallR X (.type "tuple") (uTuple X.K) := call_tuple_of
theorem cl_uInt : CallR X (.type "int") uInt := call_int1
theorem cl_uBool : CallR X (.type "bool") uBool := call_bool1
theorem cl_uMax2 (hc : X.calm = true) : CallR X (.builtin "max") uMax2 := call_max2 hc
end
/-! ### a def, a method, a maker: what a caller asks -/
structure Cd (P : Program) (w : World) (K : Fg) (mg : Str → Option Value) (base : Heap) (k : Nat) (x : Str) (sp : Sp) (dvs : List V) : Prop where
  ex : ∃ (f : Addr) (fd : FuncData) (ps : List Str) (ds : List Value), FnOk P w K mg base (L2.CX P w) k f fd ps sp ∧ mg x = some (.ref f) ∧ PySem.W.keepIn K (.ref f) = true ∧ Binds K fd ps ds ∧ Vals dvs ds
structure Cm (P : Program) (w : World) (K : Fg) (mg : Str → Option Value) (base : Heap) (k : Nat) (C : Addr) (m : Str) (sp : Sp) (dvs : List V) : Prop where
  ex : ∃ (f : Addr) (fd : FuncData) (ps : List Str) (ds : List Value), Cls K C ∧ Meth K C m f ∧ FnOk P w K mg base (L2.CX P w) k f fd ps sp ∧ Binds K fd ps ds ∧ Vals dvs ds
structure Ck (P : Program) (w : World) (K : Fg) (mg : Str → Option Value) (base : Heap) (k : Nat) (x : Str) (C : Addr) (sp : Sp) (dvs : List V) : Prop where
  ex : ∃ (f : Addr) (fd : FuncData) (ps : List Str) (ds : List Value), Mk K C f ∧ FnOk P w K mg base (L2.CX P w) k f fd ps sp ∧ mg x = some (.ref C) ∧ Binds K fd ps ds ∧ Vals dvs ds
section
variable {X : Cx} {k j : Nat} {C : Addr} {x m : Str} {sp : Sp} {dvs : List V} {p pos apos : Pos} {e o : Expr} {es : List Expr} {ta : TE} {t : TA} {E : XK}
theorem pe_cd (c : Cd X.prog X.w X.K X.mg X.base k x sp dvs) (hr : Room j X.A) (hk : k ≤ j) (hx : Passes (L2.CX X.prog X.w) X E) (hg : Gl X x) (ha : PA X (e :: es) t)
    (hdb : (x == ("__debug__" : Str)) = false := by decide) (he : starEach (e :: es) X.env = (false, eval e X.env) :: starEach es X.env := by rfl) (hpl : (backTo pos (starEach es X.env)).any (·.1) = false := by rfl) :
    PE X (.Call (.Name x p) (e :: es) [] pos) (tCall sp dvs E t) := by
  obtain ⟨f, fd, ps, ds, F, hm, kp, b, d⟩ := c.ex
  exact pe_call F (hr.mono hk) hg hm kp b d hx ha hdb he hpl
theorem pe_cd0 (c : Cd X.prog X.w X.K X.mg X.base k x sp dvs) (hr : Room j X.A) (hk : k ≤ j) (hx : Passes (L2.CX X.prog X.w) X E) (hg : Gl X x) (hdb : (x == ("__debug__" : Str)) = false := by decide) :
    PE X (.Call (.Name x p) [] [] pos) (tCall sp dvs E tNil) := by
  obtain ⟨f, fd, ps, ds, F, hm, kp, b, d⟩ := c.ex
  exact pe_call0 F (hr.mono hk) hg hm kp b d hx hdb
theorem pe_ck (c : Ck X.prog X.w X.K X.mg X.base k x C sp dvs) (hr : Room j X.A) (hk : k + 1 ≤ j) (hx : Passes (L2.CX X.prog X.w) X E) (hg : Gl X x) (ha : PA X (e :: es) t)
    (hdb : (x == ("__debug__" : Str)) = false := by decide) (he : starEach (e :: es) X.env = (false, eval e X.env) :: starEach es X.env := by rfl) (hpl : (backTo pos (starEach es X.env)).any (·.1) = false := by rfl) :
    PE X (.Call (.Name x p) (e :: es) [] pos) (tMake C sp dvs E t) := by
  obtain ⟨f, fd, ps, ds, M, F, hm, b, d⟩ := c.ex
  exact pe_make M F (hr.mono hk) hg hm b d hx ha hdb he hpl
theorem pe_cm {pl : Sem Bool} (c : Cm X.prog X.w X.K X.mg X.base k C m sp dvs) (hr : Room j X.A) (hk : k ≤ j) (hx : Passes (L2.CX X.prog X.w) X E) (he : PE X o ta) (ha : PA X (e :: es) t)
    (hst : starEach (e :: es) X.env = (false, eval e X.env) :: starEach es X.env := by rfl) (hpl : (backTo pos (starEach es X.env)).any (·.1) = false := by rfl)
    (ht : eval (.Call (.Attribute o m apos) (e :: es) [] pos) X.env = (do
      let ov ← eval o X.env
      standAt apos.atName
      let (f, first) ← holding [ov] (getMethod ov m pl)
      callWith pos f first (backTo pos (starEach (e :: es) X.env)) (backToKw pos (keywordEach [] X.env))) := by rfl) :
    PE X (.Call (.Attribute o m apos) (e :: es) [] pos) (tMeth C m sp dvs E ta t) := by
  obtain ⟨f, fd, ps, ds, hc, hm, F, b, d⟩ := c.ex
  exact pe_meth (pl := pl) he hc hm F (hr.mono hk) b d hx ha hst hpl ht
theorem pe_cm0 {pl : Sem Bool} (c : Cm X.prog X.w X.K X.mg X.base k C m sp dvs) (hr : Room j X.A) (hk : k ≤ j) (hx : Passes (L2.CX X.prog X.w) X E) (he : PE X o ta)
    (ht : eval (.Call (.Attribute o m apos) [] [] pos) X.env = (do
      let ov ← eval o X.env
      standAt apos.atName
      let (f, first) ← holding [ov] (getMethod ov m pl)
      callWith pos f first (backTo pos (starEach [] X.env)) (backToKw pos (keywordEach [] X.env))) := by rfl) :
    PE X (.Call (.Attribute o m apos) [] [] pos) (tMeth C m sp dvs E ta tNil) := by
  obtain ⟨f, fd, ps, ds, hc, hm, F, b, d⟩ := c.ex
  exact pe_meth0 (pl := pl) he hc hm F (hr.mono hk) b d hx ht
theorem passE0 : Passes (L2.CX X.prog X.w) X (fun _ _ _ => False) := fun _ _ _ _ _ _ _ h => by
  obtain ⟨_, _, _, _, _, _, _, _, _, _, _, _, z⟩ := h
  exact z.elim
end
end Lp

set_option Elab.async false
set_option linter.all false
set_option maxRecDepth 100000
set_option maxHeartbeats 4000000
/-! L4: more rules whatever the operands are: enumerate of a tuple, slices, what is walked; small names for premises. Own work. -/
namespace PySem
set_option maxHeartbeats 1000000 in
theorem lp_meets_enum1 {v : Value} {o : Obj} {H : Heap → Prop} (B : Begins v o H) :
    Meets (Builtin.«enumerate.__new__» ⟨[.type "enumerate", v], []⟩) (fun _ R s => H s.heap ∧
      R (.ok (.ret (.ref (s.heap.push o).objs.size))) { s with heap := (s.heap.push o).push { cls := .type "enumerate", data := .fields #[.none, .bool false, .ref s.heap.objs.size, rawInt 0, .none, .none] } }) :=
  .of_wp fun prog w A R s h => by
    obtain ⟨hp, g, d, tk, os⟩ := s; obtain ⟨h1, h⟩ := h
    have hsub := sub_enumerate
    have q1 : ∀ {A' : Around} {E : Value → Shared → Prop} {Q : Value → Shared → Prop}, Q (.ref hp.objs.size) ⟨hp.push o, g, d, tk, os⟩ → wpAny (model prog w) A' (pyIter v) Q E ⟨hp, g, d, tk, os⟩ :=
      fun q => B.iter prog w _ _ ⟨hp, g, d, tk, os⟩ _ h1 q
    wp_walk using q1
    refine wpAny_stack_any fun st => wpAny_pure ?_
    split
    · rename_i c _ _ _ _ _
      cases (c == Value.type "enumerate")
      · wp_walk using q1
        exact ⟨_, rfl, h⟩
      · wp_walk using q1
        exact ⟨_, rfl, h⟩
    · wp_walk using q1
      exact ⟨_, rfl, h⟩
section
variable {prog : Program} {w : World} {A : Around} {E : Value → Shared → Prop} {s : Shared}
theorem lp_enum_begins {v : Value} {o : Obj} {H : Heap → Prop} {Q : Value → Shared → Prop} (B : Begins v o H) (h1 : H s.heap)
    (h : ∀ h', IsEnum h' (s.heap.objs.size + 1) s.heap.objs.size 0 .none → h'.get? s.heap.objs.size = some o → h'.objs.size = s.heap.objs.size + 2 →
      (∀ b o, s.heap.get? b = some o → h'.get? b = some o) → Q (.ref (s.heap.objs.size + 1)) { s with heap := h' }) :
    wpAny (model prog w) A (call (.type "enumerate") [v]) Q E s := by
  refine callType_new F.called_enumerate (by decide) (F.typeCall_enumerate_1 _) (F.newCall_enumerate_1 _) (fun obj => F.args_object_init_2 obj _) F.entry_enumerate_new
    (lp_meets_enum1 B) ⟨h1, ?_⟩
  have hz : (s.heap.push o).objs.size = s.heap.objs.size + 1 := Heap.size_push ..
  show _ ∧ _
  rw [hz]
  have he : IsEnum ((s.heap.push o).push { cls := .type "enumerate", data := .fields #[.none, .bool false, .ref s.heap.objs.size, rawInt 0, .none, .none] }) (s.heap.objs.size + 1) s.heap.objs.size 0 .none := by
    have := Heap.get?_push_size (s.heap.push o) (o := { cls := .type "enumerate", data := .fields #[.none, .bool false, .ref s.heap.objs.size, rawInt 0, .none, .none] }) rfl
    rw [hz] at this; exact this
  refine ⟨⟨_, he, rfl⟩, h _ he (Heap.get?_push_of_some _ (Heap.get?_push_size _ B.free)) (by rw [Heap.size_push, hz]) fun b o x => Heap.get?_push_of_some _ (Heap.get?_push_of_some _ x)⟩
end
end PySem
namespace Lp
open PySem PySem.Spec PyProof.Rows L2 LamX
/-! ### enumerate(tuple) -/
def IteT (K : Fg) (a : Addr) : It :=
  ⟨fun i H => ∃ (xs : List V) (x : V), SqT K H a xs ∧ xs[i]? = some x, fun i H v H' => ∃ T x, v = .ref T ∧ H T = none ∧ H' = upd H T (.tup [.int (i : Nat), x]) ∧ ∀ xs, SqT K H a xs → xs[i]? = some x, fun i H => ∃ xs : List V, SqT K H a xs ∧ xs.length ≤ i⟩
theorem tup_inj {X : Cx} {pins : List (Addr × Obj)} {σ : L2.St} {H : Hp} {s : Shared} {a : Addr} {xs ys : List V} (I : Inv X pins σ H s) (h1 : SqT X.K H a xs) (h2 : SqT X.K H a ys) : xs = ys := by
  first
    | exact I.tuple_inj h1 h2
    | exact I.tup_inj h1 h2
theorem turn_enumT {P : Program} {w : World} {K : Fg} {elts : List Expr} {kk : Nat} {tpos : Pos} {items : Array Value} (a e it : Addr) (hat : a ≠ it) (hae : a ≠ e) :
    Turn P w K (.Tuple elts kk tpos) (IteT K a) [e, it] e (fun i h => (∃ old, IsEnum h e it ((i : Nat) : Int) old) ∧ h.IsTupleIter it a i ∧ e ≠ it) where
  mem := by simp
  obj := fun i h st b hb => by
    obtain ⟨⟨old, he⟩, ⟨o, ho, hc, hd⟩, _⟩ := st
    have e' : b = e ∨ b = it := by simpa using hb
    rcases e' with z | z
    · rw [z]; exact ⟨_, he, fun v q => nomatch q⟩
    · rw [z]; exact ⟨o, ho, fun v q => by rw [hd] at q; cases q⟩
  keep := fun i h h' st k => let ⟨⟨old, he⟩, hi, hne⟩ := st; ⟨⟨old, k e (by simp) _ he⟩, hi.at fun o q => k it (by simp) o q, hne⟩
  item := by
    intro X hP hw hK hc i pins s σ H E I hf st hg
    subst hP hw hK
    obtain ⟨⟨old, he⟩, hit, hne⟩ := st
    obtain ⟨xs, x, hq, hx⟩ := hg
    obtain ⟨its, rv, p, hz⟩ := I.tuple hq
    obtain ⟨u, hu, ru⟩ := rv.get hx
    have hel : e < s.heap.objs.size := Heap.lt_size he
    have hil : it < s.heap.objs.size := by obtain ⟨_, q, _⟩ := hit; exact Heap.lt_size q
    have hlt : i < its.toArray.size := by
      have := (List.getElem?_eq_some_iff.mp hu).1
      simpa using this
    have ha' : X.A.in1.handled = none := I.ok.hd hc
    have D := PySem.Draws.tuple (prog := X.prog) (w := X.w) (A := X.A.in1) ha' it a hat its.toArray
    refine wpAny_pyNext_enum_itemD (fp := [it, a]) D he ⟨hit, p⟩ hlt hne (by simp; exact ⟨hne, Ne.symm hae⟩) fun x' h' tk hP' ho hst' hT hsz hk => ?_
    have ex : x' = u := by
      have e1 : its.toArray[i]? = some u := by simpa using hu
      rw [e1] at hP'
      exact (Option.some.inj hP').symm
    subst ex
    refine ⟨_, rfl, wpAny_letOwnedTupleGo_enum (s := { s with heap := h', toks := tk + 1 }) ho fun h'' he' sb => ?_⟩
    have hT2 : h''.get? s.heap.objs.size = some { cls := .type "tuple", data := .seq #[.int i tk, x'] } := (sb.2 _ (Nat.ne_of_gt hel)).trans hT
    have new : ObjOk X.prog X.w (upd H s.heap.objs.size (.tup [.int (i : Nat), x])) h'' s.heap.objs.size (.tup [.int (i : Nat), x]) :=
      ⟨by show 2 ≤ sizeLine; decide, [.int i tk, x'], .cons ⟨_, rfl⟩ (.cons ru .nil), ⟨_, hT2, rfl, _, rfl⟩⟩
    have I1 : Inv X pins σ (upd H s.heap.objs.size (.tup [.int (i : Nat), x])) { s with heap := h'', toks := tk + 1 } :=
      I.turnedNew (ch := [e, it]) (fun b ob hb q => (sb.2 b (fun z => hb (by simp [z]))).trans (hk b ob (fun z => hb (by simp [z])) (fun z => hb (by simp [z])) q)) hf (Nat.le_refl _) new
    refine ⟨.ref s.heap.objs.size, _, I1, rfl, ⟨_, x, rfl, I.hok.fresh (Nat.le_refl _), rfl, fun ys hy => by rw [tup_inj I hy hq]; exact hx⟩, ⟨⟨x', ?_⟩, hst'.1.at fun o q => (sb.2 it (Ne.symm hne)).trans q, hne⟩, fun b hb => ?_⟩
    · have e1 : ((i + 1 : Nat) : Int) = (i : Int) + 1 := by omega
      rw [e1]; exact he'
    · have hb' : b < s.heap.objs.size := by
        have e' : b = e ∨ b = it := by simpa using hb
        rcases e' with z | z
        · rw [z]; exact hel
        · rw [z]; exact hil
      rw [upd_ne (Nat.ne_of_lt hb')]
      exact (hf b hb).1
  done := by
    intro X hP hw hK hc i pins s σ H E I hf st hg
    subst hP hw hK
    obtain ⟨⟨old, he⟩, hit, hne⟩ := st
    obtain ⟨xs, hq, hx⟩ := hg
    obtain ⟨its, rv, p, hz⟩ := I.tuple hq
    obtain ⟨f0, f1, f2, f3, f4, f5⟩ := hf it (by simp)
    have hl := rv.length
    have hT : s.TypeIs (.ref e) "enumerate" := ⟨_, he, rfl⟩
    have ha' : X.A.in1.handled = none := I.ok.hd hc
    unfold pyNext
    refine wpAny_bind (wpAny_attempt (wpAny_callSpecial?_slot (name := Str.ofString "__next__") hT F.slot_enumerate_next
      (wpAny_call_entry F.slot_enumerate_next hT F.entry_enumerate_next ?_ (F.args_enumerate_next_1 _))))
    show wpAny _ _ (field (.ref e) 2 >>= _) _ _ _
    refine wpAny_bind (wpAny_field he rfl (x := .ref it) rfl ?_)
    refine wpAny_bind (wpAny_nextOf_tuple_end ha' hit p (by simp; omega) fun h' x he' hx' => ?_)
    obtain ⟨o, ho, hcl⟩ := hx'
    refine wpAny_bind (wpAny_isInstance (T := "StopIteration") (b := true) ⟨o, ho, hcl⟩ isSubtype_stop ?_)
    exact wpAny_pure ⟨rfl, I.turned (t' := s.toks) (fun b o hb q => he' b o hb q) f0 f1 f3 f4 f5⟩
  self := fun A i s Q E st h => let ⟨⟨_, he⟩, _⟩ := st; wpAny_pyIter_enum he h

def iEnumU (K : Fg) (ta : TA) : TI := fun σ H R => ta σ H fun vs H1 => ∃ a xs, vs = [.ref a] ∧ ((SqL K H1 a xs ∧ R (Ite K a) H1) ∨ (SqT K H1 a xs ∧ R (IteT K a) H1))
section
variable {X : Cx}
theorem pi_enumU {e : Expr} {ta : TA} {p pos tpos : Pos} {elts : List Expr} {kk : Nat} (hg : Gl X "enumerate") (hm : X.mg "enumerate" = none) (ha : PA X [e] ta) (hs : starEach [e] X.env = [(false, eval e X.env)] := by rfl) :
    PI X (.Tuple elts kk tpos) (.Call (.Name "enumerate" p) [e] [] pos) (iEnumU X.K ta) := by
  refine ⟨fun pins s σ H R I h => ?_⟩
  refine Call_ (ld_blt I hg hm boot_enumerate (PyProof.Rows.callWith_type1 (thn (ha.run pos pins s σ H _ I h) fun us s1 ⟨vs, H1, I1, r1, q1⟩ => ?_) hs rfl))
  obtain ⟨a, xs, ex, q1⟩ := q1
  subst ex
  cases r1 with
  | cons r rr =>
    cases rr
    cases r
    have far : ∀ {b : Addr}, (b = s1.heap.objs.size + 1 ∨ b = s1.heap.objs.size) → s1.heap.objs.size ≤ b := fun {b} e' => by
      rcases e' with z | z
      · rw [z]; exact Nat.le_add_right _ _
      · rw [z]; exact Nat.le_refl _
    rcases q1 with ⟨hq, q⟩ | ⟨hq, q⟩
    · obtain ⟨its, rv, p', hz⟩ := I1.list hq
      refine call_enumerate_list p'.isList fun h' he hit hsz hk => wpAny_pyIter_enum he ?_
      have I2 : Inv X pins σ H1 { s1 with heap := h' } := I1.kept (t' := s1.toks) hk
      refine ⟨s1.heap.objs.size + 1, [s1.heap.objs.size + 1, s1.heap.objs.size], _, _, H1, rfl, I2, turn_enum a (s1.heap.objs.size + 1) s1.heap.objs.size, ⟨⟨.none, he⟩, hit, Nat.succ_ne_self _⟩, fun b hb => ?_, q⟩
      have e' : b = s1.heap.objs.size + 1 ∨ b = s1.heap.objs.size := by simpa using hb
      exact I1.fpOk (far e') (I1.hok.fresh (far e'))
    · obtain ⟨its, rv, p', hz⟩ := I1.tuple hq
      have hlt : a < s1.heap.objs.size := p'.lt
      refine lp_enum_begins (begins_tuple a its.toArray) p' fun h' he hit hsz hk => wpAny_pyIter_enum he ?_
      have I2 : Inv X pins σ H1 { s1 with heap := h' } := I1.kept (t' := s1.toks) hk
      refine ⟨s1.heap.objs.size + 1, [s1.heap.objs.size + 1, s1.heap.objs.size], _, _, H1, rfl, I2, turn_enumT (items := its.toArray) a (s1.heap.objs.size + 1) s1.heap.objs.size (Nat.ne_of_lt hlt) (Nat.ne_of_lt (Nat.lt_succ_of_lt hlt)), ⟨⟨.none, he⟩, ⟨_, hit, rfl, rfl⟩, Nat.succ_ne_self _⟩, fun b hb => ?_, q⟩
      have e' : b = s1.heap.objs.size + 1 ∨ b = s1.heap.objs.size := by simpa using hb
      exact I1.fpOk (far e') (I1.hok.fresh (far e'))
/-! ### slices of lists, tuples, texts -/
theorem SlR.or {r r' : V → Option Int → Option Int → Hp → VK → Prop} (h : SlR X r) (h' : SlR X r') : SlR X (fun x l u H Q => r x l u H Q ∨ r' x l u H Q) := by
  unfold SlR at *
  intros
  rename_i q
  rcases q with q | q
  · apply h <;> assumption
  · apply h' <;> assumption
end
def uSl (K : Fg) : V → Option Int → Option Int → Hp → VK → Prop := fun x l u H Q => rSlL K x l u H Q ∨ ((rSlA K x l u H Q) ∨ C8.rSlX x l u H Q)
section
variable {X : Cx}
theorem sl_u : SlR X (uSl X.K) := SlR.or sl_list (SlR.or sl_tupA C8.sl_txt)
/-! ### what is walked: a list, a tuple, a text -/
def iU (K : Fg) (te : TE) : TI := fun σ H R => te σ H fun v H1 => (∃ a, v = .ref a ∧ (((∃ xs, SqL K H1 a xs) ∧ R (Itl K a) H1) ∨ ((∃ xs, SqT K H1 a xs) ∧ R (Itt K a) H1))) ∨ ∃ x, v = .str x ∧ R (Its x) H1
theorem pi_u {tg e : Expr} {te : TE} (he : PE X e te) : PI X tg e (iU X.K te) := by
  refine ⟨fun pins s σ H R I h => ?_⟩
  refine thn (he.run pins s σ H _ I h) fun u s1 ⟨x, H1, I1, rx, q⟩ => ?_
  rcases q with ⟨a, ex, ⟨hq, q⟩ | ⟨hq, q⟩⟩ | ⟨y, ey, q⟩
  · subst ex
    obtain ⟨xs, hx⟩ := hq
    obtain rfl : u = Value.ref a := rx
    obtain ⟨its, rv, p, hz⟩ := I1.list hx
    refine wpAny_pyIter_list p.isList ?_
    refine ⟨s1.heap.objs.size, [s1.heap.objs.size], _, _, H1, rfl, I1.kept (t' := s1.toks) fun b o e => Heap.get?_push_of_some _ e, turn_list a _, ⟨_, Heap.get?_push_size _ rfl, rfl, rfl⟩, fun b hb => ?_, q⟩
    have e : b = s1.heap.objs.size := by simpa using hb
    subst e
    exact I1.fpOk (Nat.le_refl _) (I1.hok.fresh (Nat.le_refl _))
  · subst ex
    obtain ⟨xs, hx⟩ := hq
    obtain rfl : u = Value.ref a := rx
    obtain ⟨its, rv, p, hz⟩ := I1.tuple hx
    refine wpAny_pyIter_tuple (show s1.heap.IsTuple a its.toArray from p) ?_
    refine ⟨s1.heap.objs.size, [s1.heap.objs.size], _, _, H1, rfl, I1.kept (t' := s1.toks) fun b o e => Heap.get?_push_of_some _ e, turn_tuple a _, ⟨_, Heap.get?_push_size _ rfl, rfl, rfl⟩, fun b hb => ?_, q⟩
    have e : b = s1.heap.objs.size := by simpa using hb
    subst e
    exact I1.fpOk (Nat.le_refl _) (I1.hok.fresh (Nat.le_refl _))
  · subst ey
    obtain ⟨t, rfl⟩ := (show ∃ t, u = Value.str y t from rx)
    cases ha : y.cps.all (· < 128)
    · exact wpAny_pyIter_wide ha (pi_one (tk := s1.toks) I1 _ (turn_str _ y t "str_iterator" (.inr rfl)) ⟨_, Heap.get?_push_size _ rfl, rfl, rfl⟩ q)
    · exact wpAny_pyIter_ascii ha (pi_one (tk := s1.toks) I1 _ (turn_str _ y t "str_ascii_iterator" (.inl rfl)) ⟨_, Heap.get?_push_size _ rfl, rfl, rfl⟩ q)
end
/-! ### small names -/
def uStr : List V → Hp → VK → Prop := fun xs H Q => (∃ a, xs = [.str a] ∧ Q (.str a) H) ∨ ∃ i, xs = [.int i] ∧ i.natAbs.log2 < 1920 ∧ Q (.str (toString i)) H
section
variable {X : Cx}
theorem cl_uStr : CallR X (.type "str") uStr := CallR.or SkE.call_str_str call_str_int
theorem pg_n (i : Nat) {x : Str} {pos : Pos} (hN : X.N.Nodup) (hi : X.N[i]? = some x := by rfl) (hx : Loc X.env.scope x := by first | exact Or.inl rfl | exact Or.inr rfl)
    (hf : X.fn x = true ∨ X.env.scope.names.lookup x = some .local := by first | exact .inl rfl | exact .inr rfl) : PG X (.Name x pos) (gName i) := pg_name hN hi hx hf
theorem ps_s (i : Nat) {x : Str} {e : Expr} {te : TE} {pos pos' : Pos} (hN : X.N.Nodup) (he : PE X e te) (hi : X.N[i]? = some x := by rfl) (hx : Loc X.env.scope x := by first | exact Or.inl rfl | exact Or.inr rfl)
    (hs : swapsWith e (some (.Name x pos')) pos.line X.env = pure false := by rfl) (hf : X.fn x = true ∨ X.env.scope.names.lookup x = some .local := by first | exact .inl rfl | exact .inr rfl) :
    PS X (.Assign [.Name x pos'] e pos) (tAsg te (gName i)) := ps_set hN hi hx he hs hf
end
theorem bt_str : bootBuiltins "str" = some (.type "str") := by decide +kernel
theorem bt_int : bootBuiltins "int" = some (.type "int") := by decide +kernel
theorem bt_bool : bootBuiltins "bool" = some (.type "bool") := by decide +kernel
theorem bt_list : bootBuiltins "list" = some (.type "list") := by decide +kernel
theorem bt_tuple : bootBuiltins "tuple" = some (.type "tuple") := by decide +kernel
theorem bt_dict : bootBuiltins "dict" = some (.type "dict") := by decide +kernel
theorem bb_len : bootBuiltins "len" = some (.builtin "len") := by decide +kernel
theorem bb_isinstance : bootBuiltins "isinstance" = some (.builtin "isinstance") := by decide +kernel
theorem bb_max : bootBuiltins "max" = some (.builtin "max") := by decide +kernel
theorem bb_min : bootBuiltins "min" = some (.builtin "min") := by decide +kernel
theorem bb_sum : bootBuiltins "sum" = some (.builtin "sum") := by decide +kernel
theorem bb_all : bootBuiltins "all" = some (.builtin "all") := by decide +kernel
theorem bb_any : bootBuiltins "any" = some (.builtin "any") := by decide +kernel
theorem bb_sorted : bootBuiltins "sorted" = some (.builtin "sorted") := by decide +kernel
/-- an own error is made: what a caller of its class asks -/
def tRz (C : Addr) (sp : Sp) (E : XK) (ta : TA) : TS := fun _ σ H => tMkO C sp [] ta σ H fun cls d H' => E cls d H'
structure Cx1 (P : Program) (w : World) (K : Fg) (mg : Str → Option Value) (base : Heap) (k : Nat) (x : Str) (C : Addr) (sp : Sp) : Prop where
  ex : ∃ (fI : Addr) (fd : FuncData) (ps : List Str), OexC K C ∧ PySem.W.findIn K (.ref C) "__init__" = some (some (.ref fI)) ∧ PySem.W.typeIn K (.ref fI) = some (.type "function") ∧
    FnOk P w K mg base (L2.CX P w) k fI fd ps sp ∧ Binds K fd ps [] ∧ mg x = some (.ref C)
section
variable {X : Cx} {x : Str} {C : Addr} {k j : Nat} {sp : Sp} {e : Expr} {es : List Expr} {ta : TA} {p pos : Pos}
theorem pmk_x (c : Cx1 X.prog X.w X.K X.mg X.base k x C sp) (hr : Room j X.A) (hk : k + 1 ≤ j) (hg : Gl X x) (ha : PA X (e :: es) ta)
    (hdb : (x == ("__debug__" : Str)) = false := by decide) (he : starEach (e :: es) X.env = (false, eval e X.env) :: starEach es X.env := by rfl) (hpl : (backTo pos (starEach es X.env)).any (·.1) = false := by rfl) :
    PMk X (.Call (.Name x p) (e :: es) [] pos) (tMkO C sp [] ta) := by
  obtain ⟨fI, fd, ps, T, iC, tI, F, b, hm⟩ := c.ex
  exact pmk_oex T iC tI F (hr.mono hk) b .nil passE0 hg hm ha hdb he hpl
end
/-- an own error's __init__: it calls its base's, then keeps what it got in a field -/
def spX (C : Addr) (f : Str) : Sp := fun vs H Q _ => ∃ (a : Addr) (v : V), vs = [.ref a, v] ∧ H a = some (exo a C none) ∧ ∀ dx, H dx = none → dx ≠ a → Q .non (upd (upd H dx (exd dx [(f, v)])) a (exo a C (some dx)))
/-- what comes of raise X(v), behind v -/
theorem rz_k {C : Addr} {f : Str} {E : XK} {v : V} {H1 : Hp} (h : ∀ d, H1 d = none → E (.ref C) (some d) (upd H1 d (.xd [(f, v)]))) :
    [v].length ≤ 1000 ∧ ∀ a, H1 a = none → spX C f (.ref a :: ([v] ++ [])) (upd H1 a (exo a C none))
      (fun v' H2 => v' = .non ∧ ∃ (d : Addr) (fs : List (Str × V)), H2 a = some (exo a C (some d)) ∧ H2 d = some (exd d fs) ∧ H1 d = none ∧ E (.ref C) (some d) (upd (del H2 a) d (.xd fs))) (fun _ _ _ => False) := by
  refine ⟨by show 1 ≤ 1000; decide, fun a ha => ⟨a, v, rfl, upd_same, fun dx hd hne => ⟨rfl, dx, [(f, v)], upd_same, by rw [upd_ne hne, upd_same], ?_, ?_⟩⟩⟩
  · rw [upd_ne hne] at hd
    exact hd
  · have hd1 : H1 dx = none := by rw [upd_ne hne] at hd; exact hd
    have e : upd (del (upd (upd (upd H1 a (exo a C none)) dx (exd dx [(f, v)])) a (exo a C (some dx))) a) dx (.xd [(f, v)]) = upd H1 dx (.xd [(f, v)]) := by
      funext b
      by_cases hb : b = dx
      · rw [hb, upd_same, upd_same]
      · rw [upd_ne hb, upd_ne hb]
        by_cases hba : b = a
        · rw [hba, del_same, ha]
        · rw [del_ne hba, upd_ne hba, upd_ne hb, upd_ne hba]
    rw [e]
    exact h dx hd1
end Lp

set_option Elab.async false
set_option linter.all false
set_option maxRecDepth 100000
set_option maxHeartbeats 4000000
/-! L5: readings over data alone. A local holds data, or a list of its own that the def fills, or the jar of the draws; what an expression gives, what a statement comes to. Own work. -/
namespace Lp
open PySem PySem.Spec PyProof.Rows L2 LamX
/-- the jar of the draws: a list of three whole numbers -/
def JarOk (H : Hp) (j : Addr) : Prop := ∃ a b c : Int, H j = some (.lst [.int a, .int b, .int c]) ∧ 0 ≤ b ∧ b < 2147483647
/-- what a local holds -/
inductive Ent where
  | emp | val (d : Dt) | own (p : Addr) (ds : List Dt) | jar (j : Addr)
def ownA : Ent → List Addr
  | .own p _ => [p]
  | _ => []
def owned (Γ : List Ent) : List Addr := Γ.flatMap ownA
abbrev Ad := Addr → Prop
/-- what may be changed: S0, and the lists of the def's own -/
def Sx (S0 : Ad) (Γ : List Ent) : Ad := fun a => S0 a ∨ a ∈ owned Γ
def At (K : Fg) (J S : Ad) (H : Hp) (o : Option V) (e : Ent) : Prop := match e with
  | .emp => True
  | .val d => ∃ v, o = some v ∧ Rep K S H v d
  | .own p ds => o = some (.ref p) ∧ ∃ xs, H p = some (.lst xs) ∧ RepL K S H xs ds
  | .jar j => o = some (.ref j) ∧ J j
abbrev Tbl := List (Addr × Str)
/-- S0: what no data meet; J: the part of it that may be changed (the jar) -/
structure Rel (K : Fg) (T : Tbl) (S0 J : Ad) (Γ : List Ent) (σ : L2.St) (H : Hp) : Prop where
  js : ∀ a, J a → S0 a
  jr : ∀ a, J a → JarOk H a
  wf : ∀ a, S0 a → ¬ Fre H a
  tb : Tabs T H
  nd : (owned Γ).Nodup
  os : ∀ p ∈ owned Γ, ¬ S0 p
  len : σ.length = Γ.length
  at_ : ∀ (i : Nat) (o : Option V) (e : Ent), σ[i]? = some o → Γ[i]? = some e → At K J (Sx S0 Γ) H o e
/-- a step: all but S0 and the own lists stands, own lists come anew or were there -/
structure Go (T : Tbl) (J : Ad) (Γ : List Ent) (H : Hp) (Γ' : List Ent) (H' : Hp) : Prop where
  nx : Nx T (Sx J Γ) H H'
  own : ∀ p ∈ owned Γ', p ∈ owned Γ ∨ Fre H p
section
variable {K : Fg} {T : Tbl} {S0 J : Ad} {Γ Γ1 Γ2 : List Ent} {σ : L2.St} {H H1 H2 : Hp}
theorem Go.refl : Go T J Γ H Γ H := ⟨.refl, fun _ h => .inl h⟩
theorem Go.trans (a : Go T J Γ H Γ1 H1) (b : Go T J Γ1 H1 Γ2 H2) : Go T J Γ H Γ2 H2 := by
  refine ⟨⟨fun c o e n s => ?_, fun c e => a.nx.dom c (b.nx.dom c e), fun t => b.nx.tab (a.nx.tab t)⟩, fun p hp => ?_⟩
  · refine b.nx.le c o (a.nx.le c o e n s) n fun z => ?_
    rcases z with z | z
    · exact s (.inl z)
    · rcases a.own c z with q | q
      · exact s (.inr q)
      · exact q o e n
  · rcases b.own p hp with q | q
    · exact a.own p q
    · exact .inr (a.nx.dom p q)
theorem mem_owned {i : Nat} {p : Addr} {ds : List Dt} (h : Γ[i]? = some (.own p ds)) : p ∈ owned Γ :=
  List.mem_flatMap.mpr ⟨_, List.mem_of_getElem? h, List.mem_singleton.mpr rfl⟩
/-- the heap goes on, nothing that is known changes -/
theorem JarOk.nx {S : Ad} {j : Addr} (h : JarOk H j) (n : Nx T S H H1) (s : ¬ S j) : JarOk H1 j := by
  obtain ⟨a, b, c, e, q⟩ := h
  exact ⟨a, b, c, n.le _ _ e noT_lst s, q⟩
theorem Rel.nx (r : Rel K T S0 J Γ σ H) (n : Nx T (fun _ => False) H H1) : Rel K T S0 J Γ σ H1 := by
  refine ⟨r.js, fun a h => (r.jr a h).nx n id, fun a h z => r.wf a h (n.dom a z), n.tab r.tb, r.nd, r.os, r.len, fun i o e h1 h2 => ?_⟩
  have q := r.at_ i o e h1 h2
  have m : Nx T (Sx S0 Γ) H H1 := n.mono fun _ z => z.elim
  cases e with
  | emp => trivial
  | val d => obtain ⟨v, e1, e2⟩ := q; exact ⟨v, e1, e2.nx m⟩
  | own p ds => obtain ⟨e1, xs, e2, e3⟩ := q; exact ⟨e1, xs, n.le _ _ e2 noT_lst id, e3.nx m⟩
  | jar j => exact q
/-- .. but at a jar, which is one still -/
theorem Rel.nxJ {j : Addr} (r : Rel K T S0 J Γ σ H) (hj : J j) (n : Nx T (fun a => a = j) H H1) (ok : JarOk H1 j) : Rel K T S0 J Γ σ H1 := by
  refine ⟨r.js, fun a h => ?_, fun a h z => r.wf a h (n.dom a z), n.tab r.tb, r.nd, r.os, r.len, fun i o e h1 h2 => ?_⟩
  · by_cases z : a = j
    · rw [z]; exact ok
    · exact (r.jr a h).nx n z
  have q := r.at_ i o e h1 h2
  have m : Nx T (Sx S0 Γ) H H1 := n.mono fun b z => by rw [z]; exact .inl (r.js _ hj)
  cases e with
  | emp => trivial
  | val d => obtain ⟨v, e1, e2⟩ := q; exact ⟨v, e1, e2.nx m⟩
  | own p ds =>
    obtain ⟨e1, xs, e2, e3⟩ := q
    exact ⟨e1, xs, n.le _ _ e2 noT_lst (fun z => r.os p (mem_owned h2) (by rw [z]; exact r.js _ hj)), e3.nx m⟩
  | jar k => exact q
theorem Rel.get {i : Nat} {d : Dt} (r : Rel K T S0 J Γ σ H) (h : Γ[i]? = some (.val d)) : ∃ v, σ[i]? = some (some v) ∧ Rep K (Sx S0 Γ) H v d := by
  have hl := (List.getElem?_eq_some_iff.mp h).1
  have hs : i < σ.length := by rw [r.len]; exact hl
  obtain ⟨v, e1, e2⟩ := r.at_ i σ[i] _ (List.getElem?_eq_getElem hs) h
  exact ⟨v, by rw [List.getElem?_eq_getElem hs, e1], e2⟩
theorem Rel.getO {i : Nat} {p : Addr} {ds : List Dt} (r : Rel K T S0 J Γ σ H) (h : Γ[i]? = some (.own p ds)) : σ[i]? = some (some (.ref p)) ∧ ∃ xs, H p = some (.lst xs) ∧ RepL K (Sx S0 Γ) H xs ds := by
  have hl := (List.getElem?_eq_some_iff.mp h).1
  have hs : i < σ.length := by rw [r.len]; exact hl
  obtain ⟨e1, e2⟩ := r.at_ i σ[i] _ (List.getElem?_eq_getElem hs) h
  exact ⟨by rw [List.getElem?_eq_getElem hs, e1], e2⟩
theorem Rel.getJ {i : Nat} {j : Addr} (r : Rel K T S0 J Γ σ H) (h : Γ[i]? = some (.jar j)) : σ[i]? = some (some (.ref j)) ∧ J j ∧ JarOk H j := by
  have hl := (List.getElem?_eq_some_iff.mp h).1
  have hs : i < σ.length := by rw [r.len]; exact hl
  obtain ⟨e1, e2⟩ := r.at_ i σ[i] _ (List.getElem?_eq_getElem hs) h
  exact ⟨by rw [List.getElem?_eq_getElem hs, e1], e2, r.jr j e2⟩
/-- entries are forgotten, or their own lists no longer changed -/
def Less : Ent → Ent → Prop
  | .emp, _ => True
  | .val d, .val d' => d = d'
  | .val (.lst ds), .own _ ds' => ds = ds'
  | .own p ds, .own p' ds' => p = p' ∧ ds = ds'
  | .jar j, .jar j' => j = j'
  | _, _ => False
theorem owned_set {i : Nat} {e : Ent} (Γ : List Ent) : ∀ p ∈ owned (Γ.set i e), p ∈ owned Γ ∨ p ∈ ownA e := fun p hp => by
  obtain ⟨x, hx, hp⟩ := List.mem_flatMap.mp hp
  rcases List.mem_or_eq_of_mem_set hx with h | h
  · exact .inl (List.mem_flatMap.mpr ⟨x, h, hp⟩)
  · rw [h] at hp; exact .inr hp
theorem nodup_set : ∀ {Γ : List Ent} {i : Nat} {e : Ent}, (owned Γ).Nodup → (∀ p ∈ ownA e, p ∉ owned Γ) → (ownA e).Nodup → (owned (Γ.set i e)).Nodup
  | [], _, _, h, _, _ => h
  | x :: Γ, 0, e, h, he, hn => by
    have h' : (ownA x ++ owned Γ).Nodup := h
    show (ownA e ++ owned Γ).Nodup
    refine List.nodup_append.mpr ⟨hn, (List.nodup_append.mp h').2.1, fun a ha b hb z => ?_⟩
    exact he a ha (List.mem_flatMap.mpr (by
      obtain ⟨y, hy, hb⟩ := List.mem_flatMap.mp hb
      exact ⟨y, List.mem_cons_of_mem _ hy, by rw [z]; exact hb⟩))
  | x :: Γ, i + 1, e, h, he, hn => by
    have h' : (ownA x ++ owned Γ).Nodup := h
    show (ownA x ++ owned (Γ.set i e)).Nodup
    obtain ⟨h1, h2, h3⟩ := List.nodup_append.mp h'
    have he' : ∀ p ∈ ownA e, p ∉ owned Γ := fun p hp z => he p hp (by
      obtain ⟨y, hy, hb⟩ := List.mem_flatMap.mp z
      exact List.mem_flatMap.mpr ⟨y, List.mem_cons_of_mem _ hy, hb⟩)
    refine List.nodup_append.mpr ⟨h1, nodup_set h2 he' hn, fun a ha b hb z => ?_⟩
    rcases owned_set Γ b hb with q | q
    · exact h3 a ha b q z
    · exact he b q (List.mem_flatMap.mpr ⟨x, List.mem_cons_self, by rw [← z]; exact ha⟩)
/-- slot i gets a value that stands for d -/
theorem Rel.setV {i : Nat} {v : V} {d : Dt} (r : Rel K T S0 J Γ σ H) (hv : Rep K (Sx S0 Γ) H v d) : Rel K T S0 J (Γ.set i (.val d)) (σ.set i (some v)) H := by
  have sub : ∀ b, Sx S0 (Γ.set i (.val d)) b → Sx S0 Γ b := fun b z => by
    rcases z with z | z
    · exact .inl z
    · rcases owned_set Γ b z with q | q
      · exact .inr q
      · cases q
  refine ⟨r.js, r.jr, r.wf, r.tb, nodup_set r.nd (fun p hp => by cases hp) List.nodup_nil, fun p hp => ?_, by rw [List.length_set, List.length_set]; exact r.len, fun k o e h1 h2 => ?_⟩
  · rcases owned_set Γ p hp with q | q
    · exact r.os p q
    · cases q
  · by_cases hk : k = i
    · subst hk
      have hl := (List.getElem?_eq_some_iff.mp h2).1
      rw [List.length_set] at hl
      have hs : k < σ.length := by rw [r.len]; exact hl
      rw [List.getElem?_set_self hl] at h2
      rw [List.getElem?_set_self hs] at h1
      cases h1; cases h2
      exact ⟨v, rfl, hv.sub (.of sub)⟩
    · rw [List.getElem?_set_ne (Ne.symm hk)] at h1 h2
      have q := r.at_ k o e h1 h2
      cases e with
      | emp => trivial
      | val d => obtain ⟨v, e1, e2⟩ := q; exact ⟨v, e1, e2.sub (.of sub)⟩
      | own p ds => obtain ⟨e1, xs, e2, e3⟩ := q; exact ⟨e1, xs, e2, e3.sub (.of sub)⟩
      | jar j => exact q
/-- slot i gets a list of its own -/
theorem Rel.setO {i : Nat} {p : Addr} {xs : List V} {ds : List Dt} (r : Rel K T S0 J Γ σ H) (hp : H p = some (.lst xs)) (hx : RepL K (Sx S0 (Γ.set i (.own p ds))) H xs ds) (h1 : ¬ S0 p) (h2 : p ∉ owned Γ)
    (fr : ∀ (k : Nat) (o : Option V) (e : Ent), k ≠ i → σ[k]? = some o → Γ[k]? = some e → At K J (Sx S0 (Γ.set i (.own p ds))) H o e) : Rel K T S0 J (Γ.set i (.own p ds)) (σ.set i (some (.ref p))) H := by
  refine ⟨r.js, r.jr, r.wf, r.tb, nodup_set r.nd (fun q hq => ?_) (by simp [ownA]), fun q hq => ?_, by rw [List.length_set, List.length_set]; exact r.len, fun k o e g1 g2 => ?_⟩
  · rw [List.mem_singleton.mp hq]; exact h2
  · rcases owned_set Γ q hq with z | z
    · exact r.os q z
    · rw [List.mem_singleton.mp z]; exact h1
  · by_cases hk : k = i
    · subst hk
      have hl := (List.getElem?_eq_some_iff.mp g2).1
      rw [List.length_set] at hl
      have hs : k < σ.length := by rw [r.len]; exact hl
      rw [List.getElem?_set_self hl] at g2
      rw [List.getElem?_set_self hs] at g1
      cases g1; cases g2
      exact ⟨rfl, xs, hp, hx⟩
    · rw [List.getElem?_set_ne (Ne.symm hk)] at g1 g2
      exact fr k o e hk g1 g2
end
end Lp

set_option Elab.async false
set_option linter.all false
set_option maxRecDepth 100000
set_option maxHeartbeats 4000000
/-! L6: what an expression gives, told over data: a way backward for each reading. Own work. -/
namespace Lp
open PySem PySem.Spec PyProof.Rows L2 LamX
def Rj (S : Ad) (p : Addr) : Ad := fun a => S a ∨ a = p
theorem Rj.sub {S : Ad} {p : Addr} : ∀ b, S b → Rj S p b := fun _ h => .inl h
theorem Rj.new {S : Ad} {H : Hp} {p : Addr} (hp : Fre H p) : Sub S (Rj S p) H := ⟨fun b u hb nt nb z => by
  rcases z with z | z
  · exact nb z
  · rw [z] at hb; exact hp u hb nt⟩
/-- items do not meet what comes after them -/
theorem RepL.anew {K : Fg} {T : Tbl} {S : Ad} {H : Hp} {p : Addr} {o : HO} {xs : List V} {ds : List Dt} (r : RepL K S H xs ds) (hp : H p = none) (no : NoTbl o) : RepL K (Rj S p) (upd H p o) xs ds :=
  (r.sub (Rj.new (.of hp))).nx (Nx.new (T := T) hp no)
/-- what a raised error is: its class, its fields -/
abbrev XP := Addr → List (Str × Dt) → Prop
/-- E takes what X tells: M may have changed since H; J are jars still -/
def XOk (K : Fg) (T : Tbl) (E : XK) (X : XP) (S0 J M : Ad) (H : Hp) : Prop := ∀ (C : Addr) (fs : List (Str × Dt)) (xs : List (Str × V)) (dx : Addr) (H2 : Hp), X C fs → Nx T M H H2 → Fre H dx → H2 dx = some (.xd xs) → RepF K S0 H2 xs fs → (∀ a, J a → JarOk H2 a) → E (.ref C) (some dx) H2
theorem XOk.on {K : Fg} {T : Tbl} {E : XK} {X : XP} {S0 J M : Ad} {H H2 : Hp} (x : XOk K T E X S0 J M H) (n : Nx T M H H2) : XOk K T E X S0 J M H2 := fun C fs xs dx H3 h1 n2 h2 h3 h4 =>
  x C fs xs dx H3 h1 (n.trans n2) (n.dom _ h2) h3 h4
theorem XOk.nx {K : Fg} {T : Tbl} {E : XK} {X : XP} {S0 J : Ad} {H H2 : Hp} (x : XOk K T E X S0 J J H) (n : Nx T J H H2) : XOk K T E X S0 J J H2 := x.on n
theorem XOk.nxs {K : Fg} {T : Tbl} {E : XK} {X : XP} {S0 J : Ad} {Γ : List Ent} {H H2 : Hp} (x : XOk K T E X S0 J (Sx J Γ) H) (n : Nx T J H H2) : XOk K T E X S0 J (Sx J Γ) H2 := x.on (n.mono fun _ z => .inl z)
theorem XOk.less {K : Fg} {T : Tbl} {E : XK} {X : XP} {S0 J M M' : Ad} {H : Hp} (x : XOk K T E X S0 J M H) (h : ∀ b, M' b → M b) : XOk K T E X S0 J M' H := fun C fs xs dx H2 h1 n h2 h3 h4 => x C fs xs dx H2 h1 (n.mono h) h2 h3 h4
/-- what an expression may let out -/
theorem XOk.ex {K : Fg} {T : Tbl} {E : XK} {X : XP} {S0 J : Ad} {Γ : List Ent} {H : Hp} (x : XOk K T E X S0 J (Sx J Γ) H) : XOk K T E X S0 J J H := x.less fun _ z => .inl z
theorem XOk.go {K : Fg} {T : Tbl} {E : XK} {X : XP} {S0 J : Ad} {Γ Γ' : List Ent} {H H2 : Hp} (x : XOk K T E X S0 J (Sx J Γ) H) (g : Go T J Γ H Γ' H2) : XOk K T E X S0 J (Sx J Γ') H2 := fun C fs xs dx H3 h1 n2 h2 h3 h4 =>
  x C fs xs dx H3 h1 (Go.trans g ⟨n2, fun p hp => .inl hp⟩ : Go T J Γ H Γ' H3).nx (g.nx.dom _ h2) h3 h4
theorem XOk.none {K : Fg} {T : Tbl} {E : XK} {S0 J M : Ad} {H : Hp} : XOk K T E (fun _ _ => False) S0 J M H := fun _ _ _ _ _ h => h.elim
section
variable {K : Fg} {T : Tbl} {E : XK} {X : XP}
/-- evaluated, it gives data of which P holds -/
def EX (K : Fg) (T : Tbl) (E : XK) (X : XP) (te : TE) (Γ : List Ent) (P : Dt → Prop) : Prop := ∀ (S0 J : Ad) (σ : L2.St) (H : Hp), Rel K T S0 J Γ σ H → XOk K T E X S0 J J H → ∀ Q : VK,
  (∀ (v : V) (d : Dt) (H2 : Hp), P d → Rel K T S0 J Γ σ H2 → Nx T J H H2 → Rep K (Sx S0 Γ) H2 v d → Q v H2) → te σ H Q
/-- .. or a list of the def's own that is but read -/
def RepB (K : Fg) (J S : Ad) (H : Hp) (v : V) (d : Dt) : Prop := Rep K S H v d ∨ ∃ (a : Addr) (xs : List V) (ds : List Dt), v = .ref a ∧ d = .lst ds ∧ ¬ J a ∧ H a = some (.lst xs) ∧ RepL K S H xs ds
def EB (K : Fg) (T : Tbl) (E : XK) (X : XP) (te : TE) (Γ : List Ent) (P : Dt → Prop) : Prop := ∀ (S0 J : Ad) (σ : L2.St) (H : Hp), Rel K T S0 J Γ σ H → XOk K T E X S0 J J H → ∀ Q : VK,
  (∀ (v : V) (d : Dt) (H2 : Hp), P d → Rel K T S0 J Γ σ H2 → Nx T J H H2 → RepB K J (Sx S0 Γ) H2 v d → Q v H2) → te σ H Q
/-- a new list -/
def EL (K : Fg) (T : Tbl) (E : XK) (X : XP) (te : TE) (Γ : List Ent) (P : List Dt → Prop) : Prop := ∀ (S0 J : Ad) (σ : L2.St) (H : Hp), Rel K T S0 J Γ σ H → XOk K T E X S0 J J H → ∀ Q : VK,
  (∀ (p : Addr) (xs : List V) (ds : List Dt) (H2 : Hp), P ds → Rel K T S0 J Γ σ H2 → Nx T J H H2 → Fre H p → H2 p = some (.lst xs) → RepL K (Rj (Sx S0 Γ) p) H2 xs ds → Q (.ref p) H2) → te σ H Q
def ET (K : Fg) (T : Tbl) (E : XK) (X : XP) (tt : TT) (Γ : List Ent) (P : Bool → Prop) : Prop := ∀ (S0 J : Ad) (σ : L2.St) (H : Hp), Rel K T S0 J Γ σ H → XOk K T E X S0 J J H → ∀ Q : Bool → Hp → Prop,
  (∀ (b : Bool) (H2 : Hp), P b → Rel K T S0 J Γ σ H2 → Nx T J H H2 → Q b H2) → tt σ H Q
def EA (K : Fg) (T : Tbl) (E : XK) (X : XP) (ta : TA) (Γ : List Ent) (P : List Dt → Prop) : Prop := ∀ (S0 J : Ad) (σ : L2.St) (H : Hp), Rel K T S0 J Γ σ H → XOk K T E X S0 J J H → ∀ Q : List V → Hp → Prop,
  (∀ (vs : List V) (ds : List Dt) (H2 : Hp), P ds → Rel K T S0 J Γ σ H2 → Nx T J H H2 → RepL K (Sx S0 Γ) H2 vs ds → Q vs H2) → ta σ H Q

variable {Γ : List Ent} {P : Dt → Prop} {ta tb tc te : TE} {t u : TT}
theorem Rel.jS {S0 J : Ad} {σ : L2.St} {H H2 : Hp} (r : Rel K T S0 J Γ σ H) (n : Nx T J H H2) : Nx T (Sx S0 Γ) H H2 := n.mono fun _ z => .inl (r.js _ z)
theorem EX.imp {P' : Dt → Prop} (h : EX K T E X te Γ P) (i : ∀ d, P d → P' d) : EX K T E X te Γ P' := fun S0 J σ H r xo Q q => h S0 J σ H r xo Q fun v d H2 p => q v d H2 (i d p)
theorem EX.eb (h : EX K T E X te Γ P) : EB K T E X te Γ P := fun S0 J σ H r xo Q q => h S0 J σ H r xo Q fun v d H2 p r2 n2 rp => q v d H2 p r2 n2 (.inl rp)
theorem Rel.fresh {S0 J : Ad} {σ : L2.St} {H : Hp} (r : Rel K T S0 J Γ σ H) {p : Addr} (hp : Fre H p) : ¬ Sx S0 Γ p := fun z => by
  rcases z with z | z
  · exact r.wf p z hp
  · obtain ⟨e, he, hm⟩ := List.mem_flatMap.mp z
    obtain ⟨i, hi⟩ := List.getElem?_of_mem he
    cases e with
    | own q ds =>
      have : p = q := List.mem_singleton.mp hm
      subst this
      obtain ⟨_, xs, e2, _⟩ := r.getO hi
      exact hp _ e2 noT_lst
    | emp => cases hm
    | val d => cases hm
    | jar j => cases hm
theorem EL.ex {Q : List Dt → Prop} (h : EL K T E X te Γ Q) : EX K T E X te Γ fun d => ∃ ds, d = .lst ds ∧ Q ds := fun S0 J σ H r xo Q q => h S0 J σ H r xo Q fun p xs ds H2 hp r2 n2 h1 h2 rl =>
  q _ _ H2 ⟨ds, rfl, hp⟩ r2 n2 (.lst (.inl ⟨r.fresh h1, .inl h2⟩) (rl.sub (.of Rj.sub)))
/-- as data -/
theorem x_lst {Q : List Dt → Prop} (h : EL K T E X te Γ Q) (i : ∀ ds, Q ds → P (.lst ds)) : EX K T E X te Γ P := h.ex.imp fun d ⟨ds, e, q⟩ => by rw [e]; exact i ds q

/-! ### names, constants -/
theorem x_var {i : Nat} {d : Dt} (h : Γ[i]? = some (.val d)) (p : P d) : EX K T E X (tVar i) Γ P := fun S0 J σ H r xo Q q => by
  obtain ⟨v, e, rp⟩ := r.get h
  exact ⟨v, e, q v d H p r .refl rp⟩
theorem b_var {i : Nat} {d : Dt} (h : Γ[i]? = some (.val d)) (p : P d) : EB K T E X (tVar i) Γ P := (x_var h p).eb
theorem b_own {i : Nat} {a : Addr} {ds : List Dt} (h : Γ[i]? = some (.own a ds)) (p : P (.lst ds)) : EB K T E X (tVar i) Γ P := fun S0 J σ H r xo Q q => by
  obtain ⟨e, xs, e2, rl⟩ := r.getO h
  exact ⟨_, e, q _ _ H p r .refl (.inr ⟨a, xs, ds, rfl, rfl, fun z => r.os a (mem_owned h) (r.js _ z), e2, rl⟩)⟩
theorem x_non (p : P .non) : EX K T E X (tC .non) Γ P := fun S0 J σ H r xo Q q => q _ _ H p r .refl .non
theorem x_bl {b : Bool} (p : P (.bl b)) : EX K T E X (tC (.bl b)) Γ P := fun S0 J σ H r xo Q q => q _ _ H p r .refl (.bl b)
theorem x_int {i : Int} (p : P (.int i)) : EX K T E X (tC (.int i)) Γ P := fun S0 J σ H r xo Q q => q _ _ H p r .refl (.int i)
theorem x_str {s : Str} (p : P (.str s)) : EX K T E X (tC (.str s)) Γ P := fun S0 J σ H r xo Q q => q _ _ H p r .refl (.str s)
/-- a constant of the module -/
theorem x_wr {a : Addr} {d : Dt} (h : ∀ S H, Rep K S H (.ref a) d) (p : P d) : EX K T E X (tC (.ref a)) Γ P := fun S0 J σ H r xo Q q => q _ _ H p r .refl (h _ _)

/-! ### operators -/
/-- one behind the other -/
theorem x_op {r : R2} (ha : EX K T E X ta Γ fun x => EX K T E X tb Γ fun y => ∀ (S0 J : Ad) (σ : L2.St) (H : Hp) (v w : V), Rel K T S0 J Γ σ H → Rep K (Sx S0 Γ) H v x → Rep K (Sx S0 Γ) H w y →
      ∀ Q : VK, (∀ (z : V) (d : Dt) (H2 : Hp), P d → Rel K T S0 J Γ σ H2 → Nx T J H H2 → Rep K (Sx S0 Γ) H2 z d → Q z H2) → r v w H Q) : EX K T E X (tOp r ta tb) Γ P := fun S0 J σ H rl xo Q q =>
  ha S0 J σ H rl xo _ fun v x H2 hb r2 n2 rv => hb S0 J σ H2 r2 (xo.nx n2) _ fun w y H3 hr r3 n3 rw' => hr S0 J σ H3 v w r3 (rv.nx (r2.jS n3)) rw' Q fun z d H4 p r4 n4 rz => q z d H4 p r4 ((n2.trans n3).trans n4) rz
theorem x_opB {r : R2} (ha : EB K T E X ta Γ fun x => EB K T E X tb Γ fun y => ∀ (S0 J : Ad) (σ : L2.St) (H : Hp) (v w : V), Rel K T S0 J Γ σ H → RepB K J (Sx S0 Γ) H v x → RepB K J (Sx S0 Γ) H w y →
      ∀ Q : VK, (∀ (z : V) (d : Dt) (H2 : Hp), P d → Rel K T S0 J Γ σ H2 → Nx T J H H2 → Rep K (Sx S0 Γ) H2 z d → Q z H2) → r v w H Q) : EX K T E X (tOp r ta tb) Γ P := fun S0 J σ H rl xo Q q =>
  ha S0 J σ H rl xo _ fun v x H2 hb r2 n2 rv => hb S0 J σ H2 r2 (xo.nx n2) _ fun w y H3 hr r3 n3 rw' => hr S0 J σ H3 v w r3 (by
    rcases rv with rv | ⟨a, xs, ds, e1, e2, e3, e4, e5⟩
    · exact .inl (rv.nx (r2.jS n3))
    · exact .inr ⟨a, xs, ds, e1, e2, e3, n3.le _ _ e4 noT_lst e3, e5.nx (r2.jS n3)⟩) rw' Q fun z d H4 p r4 n4 rz => q z d H4 p r4 ((n2.trans n3).trans n4) rz
/-- two whole numbers -/
theorem x_ii {r : R2} {P2 : Int → Int → Prop} {g : Int → Int → V} {gd : Int → Int → Dt} (hg : ∀ i j S H, Rep K S H (g i j) (gd i j)) (hr : ∀ i j H Q, P2 i j → Q (g i j) H → r (.int i) (.int j) H Q)
    (ha : EX K T E X ta Γ fun x => EX K T E X tb Γ fun y => ∃ i j, x = .int i ∧ y = .int j ∧ P2 i j ∧ P (gd i j)) : EX K T E X (tOp r ta tb) Γ P :=
  x_op (ha.imp fun x hx => hx.imp fun y ⟨i, j, ex, ey, hp, p⟩ S0 J σ H v w rl rv rw' Q q => by
    subst ex; subst ey
    cases rv; cases rw'
    exact hr i j H Q hp (q _ _ H p rl .refl (hg i j _ _)))
theorem x_add (ha : EX K T E X ta Γ fun x => EX K T E X tb Γ fun y => ∃ i j, x = .int i ∧ y = .int j ∧ P (.int (i + j))) : EX K T E X (tOp (uAdd K) ta tb) Γ P :=
  x_ii (P2 := fun _ _ => True) (fun i j S H => .int (i + j)) (fun i j H Q _ q => .inl ⟨i, j, rfl, rfl, q⟩) (ha.imp fun x hx => hx.imp fun y ⟨i, j, h1, h2, p⟩ => ⟨i, j, h1, h2, trivial, p⟩)
theorem x_sub (ha : EX K T E X ta Γ fun x => EX K T E X tb Γ fun y => ∃ i j, x = .int i ∧ y = .int j ∧ P (.int (i - j))) : EX K T E X (tOp uSub ta tb) Γ P :=
  x_ii (P2 := fun _ _ => True) (fun i j S H => .int (i - j)) (fun i j H Q _ q => ⟨i, j, rfl, rfl, q⟩) (ha.imp fun x hx => hx.imp fun y ⟨i, j, h1, h2, p⟩ => ⟨i, j, h1, h2, trivial, p⟩)
theorem x_mul (ha : EX K T E X ta Γ fun x => EX K T E X tb Γ fun y => ∃ i j, x = .int i ∧ y = .int j ∧ (CMul i j ∨ CMulW i j) ∧ P (.int (i * j))) : EX K T E X (tOp uMul ta tb) Γ P :=
  x_ii (P2 := fun i j => CMul i j ∨ CMulW i j) (fun i j S H => .int (i * j)) (fun i j H Q h q => h.elim (fun h => .inl ⟨i, j, rfl, rfl, h, q⟩) fun h => .inr (.inl ⟨i, j, rfl, rfl, h, q⟩)) ha
theorem x_mod (ha : EX K T E X ta Γ fun x => EX K T E X tb Γ fun y => ∃ i j, x = .int i ∧ y = .int j ∧ 0 < j ∧ P (.int (i % j))) : EX K T E X (tOp uMod ta tb) Γ P :=
  x_ii (P2 := fun i j => 0 < j) (fun i j S H => .int (i % j)) (fun i j H Q h q => ⟨i, j, rfl, rfl, h, q⟩) ha
theorem x_fdiv (ha : EX K T E X ta Γ fun x => EX K T E X tb Γ fun y => ∃ i j, x = .int i ∧ y = .int j ∧ CDivW i j ∧ P (.int (i / j))) : EX K T E X (tOp uFdiv ta tb) Γ P :=
  x_ii (P2 := fun i j => CDivW i j) (fun i j S H => .int (i / j)) (fun i j H Q h q => ⟨i, j, rfl, rfl, h, q⟩) ha
theorem x_pow (ha : EX K T E X ta Γ fun x => EX K T E X tb Γ fun y => ∃ i j, x = .int i ∧ y = .int j ∧ CPow i j ∧ P (.int (i ^ j.toNat))) : EX K T E X (tOp uPow ta tb) Γ P :=
  x_ii (P2 := fun i j => CPow i j) (fun i j S H => .int (i ^ j.toNat)) (fun i j H Q h q => ⟨i, j, rfl, rfl, h, q⟩) ha
theorem x_le (ha : EX K T E X ta Γ fun x => EX K T E X tb Γ fun y => ∃ i j, x = .int i ∧ y = .int j ∧ P (.bl (decide (i ≤ j)))) : EX K T E X (tOp uLe ta tb) Γ P :=
  x_ii (P2 := fun _ _ => True) (fun i j S H => .bl _) (fun i j H Q _ q => ⟨i, j, rfl, rfl, q⟩) (ha.imp fun x hx => hx.imp fun y ⟨i, j, h1, h2, p⟩ => ⟨i, j, h1, h2, trivial, p⟩)
theorem x_gt (ha : EX K T E X ta Γ fun x => EX K T E X tb Γ fun y => ∃ i j, x = .int i ∧ y = .int j ∧ P (.bl (decide (j < i)))) : EX K T E X (tOp uGt ta tb) Γ P :=
  x_ii (P2 := fun _ _ => True) (fun i j S H => .bl _) (fun i j H Q _ q => ⟨i, j, rfl, rfl, q⟩) (ha.imp fun x hx => hx.imp fun y ⟨i, j, h1, h2, p⟩ => ⟨i, j, h1, h2, trivial, p⟩)
theorem x_ge (ha : EX K T E X ta Γ fun x => EX K T E X tb Γ fun y => ∃ i j, x = .int i ∧ y = .int j ∧ P (.bl (decide (j ≤ i)))) : EX K T E X (tOp uGe ta tb) Γ P :=
  x_ii (P2 := fun _ _ => True) (fun i j S H => .bl _) (fun i j H Q _ q => ⟨i, j, rfl, rfl, q⟩) (ha.imp fun x hx => hx.imp fun y ⟨i, j, h1, h2, p⟩ => ⟨i, j, h1, h2, trivial, p⟩)
theorem x_lt (ha : EX K T E X ta Γ fun x => EX K T E X tb Γ fun y => ∃ i j, x = .int i ∧ y = .int j ∧ P (.bl (decide (i < j)))) : EX K T E X (tOp uLt ta tb) Γ P :=
  x_ii (P2 := fun _ _ => True) (fun i j S H => .bl _) (fun i j H Q _ q => .inl ⟨i, j, rfl, rfl, q⟩) (ha.imp fun x hx => hx.imp fun y ⟨i, j, h1, h2, p⟩ => ⟨i, j, h1, h2, trivial, p⟩)
theorem x_ltS (ha : EX K T E X ta Γ fun x => EX K T E X tb Γ fun y => ∃ i j, x = .str i ∧ y = .str j ∧ P (.bl (decide (i.cps.toList < j.cps.toList)))) : EX K T E X (tOp uLt ta tb) Γ P :=
  x_op (ha.imp fun x hx => hx.imp fun y ⟨i, j, ex, ey, p⟩ S0 J σ H v w rl rv rw' Q q => by
    subst ex; subst ey
    cases rv; cases rw'
    exact .inr ⟨i, j, rfl, rfl, q _ _ H p rl .refl (.bl _)⟩)
theorem x_addS (ha : EX K T E X ta Γ fun x => EX K T E X tb Γ fun y => ∃ i j, x = .str i ∧ y = .str j ∧ i.length + j.length ≤ sizeLine ∧ P (.str (i ++ j))) : EX K T E X (tOp (uAdd K) ta tb) Γ P :=
  x_op (ha.imp fun x hx => hx.imp fun y ⟨i, j, ex, ey, hl, p⟩ S0 J σ H v w rl rv rw' Q q => by
    subst ex; subst ey
    cases rv; cases rw'
    exact .inr (.inl ⟨i, j, rfl, rfl, hl, q _ _ H p rl .refl (.str _)⟩))
theorem x_neg (ha : EX K T E X ta Γ fun x => ∃ i, x = .int i ∧ P (.int (-i))) : EX K T E X (tUn (rU fun i => .int (-i)) ta) Γ P := fun S0 J σ H r xo Q q =>
  ha S0 J σ H r xo _ fun v x H2 ⟨i, ex, p⟩ r2 n2 rv => by
    subst ex
    cases rv
    exact ⟨i, rfl, q _ _ H2 p r2 n2 (.int _)⟩
/-- is None -/
theorem x_isN (ha : EX K T E X ta Γ fun x => P (.bl (match x with | .non => true | _ => false))) : EX K T E X (tOp uIsN ta (tC .non)) Γ P := fun S0 J σ H r xo Q q =>
  ha S0 J σ H r xo _ fun v x H2 p r2 n2 rv => ⟨rfl, q _ _ H2 p r2 n2 (by cases rv <;> exact .bl _)⟩
theorem x_notN (ha : EX K T E X ta Γ fun x => P (.bl (match x with | .non => false | _ => true))) : EX K T E X (tOp uNotN ta (tC .non)) Γ P := fun S0 J σ H r xo Q q =>
  ha S0 J σ H r xo _ fun v x H2 p r2 n2 rv => ⟨rfl, q _ _ H2 p r2 n2 (by cases rv <;> exact .bl _)⟩
theorem x_isB {b : Bool} (ha : EX K T E X ta Γ fun x => ∃ c, x = .bl c ∧ P (.bl (decide (c = b)))) : EX K T E X (tOp rIsB ta (tC (.bl b))) Γ P := fun S0 J σ H r xo Q q =>
  ha S0 J σ H r xo _ fun v x H2 ⟨c, ex, p⟩ r2 n2 rv => by
    subst ex
    cases rv
    exact ⟨c, b, rfl, rfl, q _ _ H2 p r2 n2 (.bl _)⟩
/-! ### truths -/
theorem x_and (ha : EX K T E X ta Γ fun x => ∃ c, x = .bl c ∧ (c = true → EX K T E X tb Γ P) ∧ (c = false → P (.bl false))) : EX K T E X (tAndV ta tb) Γ P := fun S0 J σ H r xo Q q =>
  ha S0 J σ H r xo _ fun v x H2 ⟨c, ex, h1, h2⟩ r2 n2 rv => by
    subst ex
    cases rv
    refine ⟨c, rfl, ?_⟩
    cases c with
    | true =>
      show tb σ H2 Q
      exact h1 rfl S0 J σ H2 r2 (xo.nx n2) Q fun w d H3 p r3 n3 rw' => q w d H3 p r3 (n2.trans n3) rw'
    | false =>
      show Q (.bl false) H2
      exact q _ _ H2 (h2 rfl) r2 n2 (.bl _)
theorem x_or (ha : EX K T E X ta Γ fun x => ∃ c, x = .bl c ∧ (c = false → EX K T E X tb Γ P) ∧ (c = true → P (.bl true))) : EX K T E X (tOrV ta tb) Γ P := fun S0 J σ H r xo Q q =>
  ha S0 J σ H r xo _ fun v x H2 ⟨c, ex, h1, h2⟩ r2 n2 rv => by
    subst ex
    cases rv
    refine ⟨c, rfl, ?_⟩
    cases c with
    | false =>
      show tb σ H2 Q
      exact h1 rfl S0 J σ H2 r2 (xo.nx n2) Q fun w d H3 p r3 n3 rw' => q w d H3 p r3 (n2.trans n3) rw'
    | true =>
      show Q (.bl true) H2
      exact q _ _ H2 (h2 rfl) r2 n2 (.bl _)
theorem x_not (ha : EX K T E X ta Γ fun x => ∃ c, x = .bl c ∧ P (.bl (!c))) : EX K T E X (tNotV ta) Γ P := fun S0 J σ H r xo Q q =>
  ha S0 J σ H r xo _ fun v x H2 ⟨c, ex, p⟩ r2 n2 rv => by
    subst ex
    cases rv
    exact ⟨c, rfl, q _ _ H2 p r2 n2 (.bl _)⟩
theorem x_if (h : ET K T E X t Γ fun b => (b = true → EX K T E X ta Γ P) ∧ (b = false → EX K T E X tb Γ P)) : EX K T E X (tIf t ta tb) Γ P := fun S0 J σ H r xo Q q =>
  h S0 J σ H r xo _ fun b H2 hb r2 n2 => by
    cases b with
    | true =>
      show ta σ H2 Q
      exact hb.1 rfl S0 J σ H2 r2 (xo.nx n2) Q fun w d H3 p r3 n3 rw' => q w d H3 p r3 (n2.trans n3) rw'
    | false =>
      show tb σ H2 Q
      exact hb.2 rfl S0 J σ H2 r2 (xo.nx n2) Q fun w d H3 p r3 n3 rw' => q w d H3 p r3 (n2.trans n3) rw'
/-! ### tests -/
variable {B : Bool → Prop}
theorem ET.imp {B' : Bool → Prop} (h : ET K T E X t Γ B) (i : ∀ b, B b → B' b) : ET K T E X t Γ B' := fun S0 J σ H r xo Q q => h S0 J σ H r xo Q fun b H2 p => q b H2 (i b p)
theorem t_val (ha : EX K T E X ta Γ fun x => ∃ c, x = .bl c ∧ B c) : ET K T E X (tB ta) Γ B := fun S0 J σ H r xo Q q =>
  ha S0 J σ H r xo _ fun v x H2 ⟨c, ex, p⟩ r2 n2 rv => by
    subst ex
    cases rv
    exact ⟨c, rfl, q c H2 p r2 n2⟩
theorem t_test (ha : EX K T E X ta Γ fun x => ∃ c, x = .bl c ∧ B c) : ET K T E X (tTest ta) Γ B := fun S0 J σ H r xo Q q =>
  ha S0 J σ H r xo _ fun v x H2 ⟨c, ex, p⟩ r2 n2 rv => by
    subst ex
    cases rv
    exact ⟨c, rfl, q c H2 p r2 n2⟩
theorem t_and (h : ET K T E X t Γ fun b => (b = true → ET K T E X u Γ B) ∧ (b = false → B false)) : ET K T E X (tAnd t u) Γ B := fun S0 J σ H r xo Q q =>
  h S0 J σ H r xo _ fun b H2 hb r2 n2 => by
    cases b with
    | true =>
      show u σ H2 Q
      exact hb.1 rfl S0 J σ H2 r2 (xo.nx n2) Q fun c H3 p r3 n3 => q c H3 p r3 (n2.trans n3)
    | false =>
      show Q false H2
      exact q false H2 (hb.2 rfl) r2 n2
theorem t_or (h : ET K T E X t Γ fun b => (b = false → ET K T E X u Γ B) ∧ (b = true → B true)) : ET K T E X (tOr t u) Γ B := fun S0 J σ H r xo Q q =>
  h S0 J σ H r xo _ fun b H2 hb r2 n2 => by
    cases b with
    | false =>
      show u σ H2 Q
      exact hb.1 rfl S0 J σ H2 r2 (xo.nx n2) Q fun c H3 p r3 n3 => q c H3 p r3 (n2.trans n3)
    | true =>
      show Q true H2
      exact q true H2 (hb.2 rfl) r2 n2
theorem t_not (h : ET K T E X t Γ fun b => B (!b)) : ET K T E X (tNot t) Γ B := fun S0 J σ H r xo Q q => h S0 J σ H r xo _ fun b H2 hb r2 n2 => q _ H2 hb r2 n2
/-! ### arguments, displays -/
variable {A : List Dt → Prop} {tr : TA}
theorem EA.imp {A' : List Dt → Prop} (h : EA K T E X tr Γ A) (i : ∀ ds, A ds → A' ds) : EA K T E X tr Γ A' := fun S0 J σ H r xo Q q => h S0 J σ H r xo Q fun vs ds H2 p => q vs ds H2 (i ds p)
theorem a_nil (p : A []) : EA K T E X tNil Γ A := fun S0 J σ H r xo Q q => q [] [] H p r .refl .nil
theorem a_cons (h : EX K T E X ta Γ fun x => EA K T E X tr Γ fun ds => A (x :: ds)) : EA K T E X (tCons ta tr) Γ A := fun S0 J σ H r xo Q q =>
  h S0 J σ H r xo _ fun v x H2 ha r2 n2 rv => ha S0 J σ H2 r2 (xo.nx n2) _ fun vs ds H3 p r3 n3 rl => q _ _ H3 p r3 (n2.trans n3) (.cons (rv.nx (r2.jS n3)) rl)
theorem RepL.len {S : Ad} {H : Hp} : ∀ {vs : List V} {ds : List Dt}, RepL K S H vs ds → vs.length = ds.length
  | _, _, .nil => rfl
  | _, _, .cons _ r => by rw [List.length_cons, List.length_cons, RepL.len r]
theorem RepL.get {S : Ad} {H : Hp} : ∀ {vs : List V} {ds : List Dt} {i : Nat} {d : Dt}, RepL K S H vs ds → ds[i]? = some d → ∃ v, vs[i]? = some v ∧ Rep K S H v d
  | _, _, _, _, .nil, h => by cases h
  | _, _, 0, _, .cons r _, h => by cases h; exact ⟨_, rfl, r⟩
  | _, _, i + 1, _, .cons _ t, h => by
    obtain ⟨v, e, r⟩ := RepL.get (i := i) t (by simpa using h)
    exact ⟨v, by simpa using e, r⟩
theorem RepL.get' {S : Ad} {H : Hp} {vs : List V} {ds : List Dt} {i : Nat} {v : V} (r : RepL K S H vs ds) (h : vs[i]? = some v) : ∃ d, ds[i]? = some d ∧ Rep K S H v d := by
  have hl := (List.getElem?_eq_some_iff.mp h).1
  have hl2 : i < ds.length := by rw [← r.len]; exact hl
  obtain ⟨w, e, rw'⟩ := r.get (List.getElem?_eq_getElem hl2)
  rw [h] at e
  cases e
  exact ⟨_, List.getElem?_eq_getElem hl2, rw'⟩
theorem RepL.app {S : Ad} {H : Hp} : ∀ {vs ws : List V} {ds es : List Dt}, RepL K S H vs ds → RepL K S H ws es → RepL K S H (vs ++ ws) (ds ++ es)
  | _, _, _, _, .nil, h => h
  | _, _, _, _, .cons r t, h => .cons r (RepL.app t h)
theorem x_tup (h : EA K T E X tr Γ fun ds => ds.length ≤ sizeLine ∧ P (.tup ds)) : EX K T E X (tTup tr) Γ P := fun S0 J σ H r xo Q q =>
  h S0 J σ H r xo _ fun vs ds H2 ⟨hl, p⟩ r2 n2 rl => ⟨by rw [rl.len]; exact hl, fun a ha => by
    have n3 : ∀ {S : Ad}, Nx T S H2 (upd H2 a (.tup vs)) := fun {S} => .new ha noT_tup
    exact q _ _ _ p (r2.nx n3) (n2.trans n3) (.tup (.inl ⟨r2.fresh (.of ha), .inl upd_same⟩) (rl.nx n3))⟩
theorem l_lst (h : EA K T E X tr Γ fun ds => ds.length ≤ sizeLine ∧ A ds) : EL K T E X (tLst tr) Γ A := fun S0 J σ H r xo Q q =>
  h S0 J σ H r xo _ fun vs ds H2 ⟨hl, p⟩ r2 n2 rl => ⟨by rw [rl.len]; exact hl, fun a ha => by
    have n3 : ∀ {S : Ad}, Nx T S H2 (upd H2 a (.lst vs)) := fun {S} => .new ha noT_lst
    exact q _ _ _ _ p (r2.nx n3) (n2.trans n3) (n2.dom a (.of ha)) upd_same (rl.anew (T := T) ha noT_lst)⟩
end
end Lp

set_option Elab.async false
set_option linter.all false
set_option maxRecDepth 100000
set_option maxHeartbeats 4000000
/-! L7: equality, membership, places, lengths, slices, copies, types over data. Own work. -/
namespace Lp
open PySem PySem.Spec PyProof.Rows L2 LamX
mutual
def toPy : Dt → PyData
  | .non => .none
  | .bl b => .bool b
  | .int i => .int i
  | .str s => .str s
  | .tup l => .tuple (toPyL l)
  | .lst l => .list (toPyL l)
  | .dct _ => .none
  | .obj _ _ => .none
def toPyL : List Dt → List PyData
  | [] => []
  | d :: l => toPy d :: toPyL l
end
mutual
def plainB : Dt → Bool
  | .tup l => plainL l
  | .lst l => plainL l
  | .dct _ => false
  | .obj _ _ => false
  | _ => true
def plainL : List Dt → Bool
  | [] => true
  | d :: l => plainB d && plainL l
end
def eqD (d e : Dt) : Bool := PyData.eqv (toPy d) (toPy e)
/-- data that == takes -/
def Okd (d : Dt) : Prop := plainB d = true ∧ SeqAt.shaped (toPy d) = true
theorem toPyL_any (ds : List Dt) (x : Dt) : ((toPyL ds).any fun z => PyData.eqv z (toPy x)) = ds.any fun z => eqD z x := by
  induction ds with
  | nil => rfl
  | cons d ds ih => simp only [toPyL, List.any_cons, ih, eqD]
section
variable {K : Fg} {T : Tbl} {E : XK} {X : XP} {S J S0 : Ad} {H : Hp}
mutual
theorem Rep.dp : ∀ {v : V} {d : Dt}, Rep K S H v d → plainB d = true → Dp K H v (toPy d)
  | _, _, .non, _ => .non
  | _, _, .bl b, _ => .bl b
  | _, _, .int i, _ => .int i
  | _, _, .str y, _ => .str y
  | _, _, .tup h r, p => .tup h.sq (RepL.dp r (by simpa only [plainB] using p))
  | _, _, .lst h r, p => .lst h.sq (RepL.dp r (by simpa only [plainB] using p))
  | _, _, .dct _ _ _, p => by simp [plainB] at p
  | _, _, .obj _ _ _, p => by simp [plainB] at p
theorem RepL.dp : ∀ {v : List V} {d : List Dt}, RepL K S H v d → plainL d = true → DpAll K H v (toPyL d)
  | _, _, .nil, _ => .nil
  | _, _, .cons h r, p => by
    simp only [plainL, Bool.and_eq_true] at p
    exact .cons (Rep.dp h p.1) (RepL.dp r p.2)
end
theorem RepB.dp {v : V} {d : Dt} (h : RepB K J S H v d) (p : plainB d = true) : Dp K H v (toPy d) := by
  rcases h with h | ⟨a, xs, ds, rfl, rfl, _, e, r⟩
  · exact h.dp p
  · exact .lst (.inl (.inl e)) (r.dp (by simpa only [plainB] using p))
/-! ### operators more -/
def rInDT (K : Fg) (n : Bool) : R2 := fun x y H Q => ∃ d ds, Dp K H x d ∧ Dp K H y (.tuple ds) ∧ SeqAt.shaped d = true ∧ SeqAt.shaped (.tuple ds) = true ∧ Q (.bl (if n then !ds.any fun z => PyData.eqv z d else ds.any fun z => PyData.eqv z d)) H
theorem shaped_tl {ds : List PyData} (h : SeqAt.shaped (.tuple ds) = true) : SeqAt.shaped (.list ds) = true := by
  have h1 := SeqAt.canLay_of_shaped h
  have h2 := SeqAt.depth_of_shaped h
  unfold SeqAt.shaped
  rw [Bool.and_eq_true_iff]
  exact ⟨h1, decide_eq_true h2⟩
theorem op_inDT {X : Cx} (hu : X.A.units + 65 < cLine) : OpR X (compareOp .In) (rInDT X.K false) := by
  intro pins s σ H x y v u Q I rx ry h
  obtain ⟨d, ds, hd, he, sd, se, q⟩ := h
  obtain ⟨as, r1⟩ := Dp.reads I d x v hd rx
  obtain ⟨bs, r2⟩ := Dp.reads I (.tuple ds) y u he ry
  exact SeqAt.in_tuple_reads r2 r1 (SeqAt.canLay_of_shaped (shaped_tl se)) (SeqAt.canLay_of_shaped sd) (room_in_shaped sd hu) ⟨.bl _, H, I, rfl, q⟩
theorem op_ninDT {X : Cx} (hu : X.A.units + 65 < cLine) : OpR X (compareOp .NotIn) (rInDT X.K true) := by
  intro pins s σ H x y v u Q I rx ry h
  obtain ⟨d, ds, hd, he, sd, se, q⟩ := h
  obtain ⟨as, r1⟩ := Dp.reads I d x v hd rx
  obtain ⟨bs, r2⟩ := Dp.reads I (.tuple ds) y u he ry
  exact SeqAt.notIn_tuple_reads r2 r1 (SeqAt.canLay_of_shaped (shaped_tl se)) (SeqAt.canLay_of_shaped sd) (room_in_shaped sd hu) ⟨.bl _, H, I, rfl, q⟩
def vIn (K : Fg) : R2 := fun x y H Q => rInDT K false x y H Q ∨ (rInD K x y H Q ∨ (rInS x y H Q ∨ rIn K false x y H Q))
def vNin (K : Fg) : R2 := fun x y H Q => rInDT K true x y H Q ∨ (rNotInD K x y H Q ∨ rIn K true x y H Q)
theorem op_vIn {X : Cx} (hu : X.A.units + 65 < cLine) : OpR X (compareOp .In) (vIn X.K) := (op_inDT hu).or ((op_inD hu).or (op_inS.or op_in_seq))
theorem op_vNin {X : Cx} (hu : X.A.units + 65 < cLine) : OpR X (compareOp .NotIn) (vNin X.K) := (op_ninDT hu).or ((op_notInD hu).or op_notIn_seq)
variable {Γ : List Ent} {P : Dt → Prop} {ta tb tc te : TE} {t u : TT} {tr : TA}
/-- from data of which one half is but read -/
theorem EB.imp {P' : Dt → Prop} (h : EB K T E X te Γ P) (i : ∀ d, P d → P' d) : EB K T E X te Γ P' := fun S0 J σ H r xo Q q => h S0 J σ H r xo Q fun v d H2 p => q v d H2 (i d p)
theorem x_eq (ha : EB K T E X ta Γ fun x => EB K T E X tb Γ fun y => Okd x ∧ Okd y ∧ P (.bl (eqD x y))) : EX K T E X (tOp (uEq K) ta tb) Γ P :=
  x_opB (ha.imp fun x hx => hx.imp fun y ⟨h1, h2, p⟩ S0 J σ H v w rl rv rw' Q q =>
    .inr (.inl ⟨toPy x, toPy y, rv.dp h1.1, rw'.dp h2.1, h1.2, h2.2, q _ _ H p rl .refl (.bl _)⟩))
theorem x_ne (ha : EB K T E X ta Γ fun x => EB K T E X tb Γ fun y => Okd x ∧ Okd y ∧ P (.bl (!eqD x y))) : EX K T E X (tOp (uNe K) ta tb) Γ P :=
  x_opB (ha.imp fun x hx => hx.imp fun y ⟨h1, h2, p⟩ S0 J σ H v w rl rv rw' Q q =>
    .inr ⟨toPy x, toPy y, rv.dp h1.1, rw'.dp h2.1, h1.2, h2.2, q _ _ H p rl .refl (.bl _)⟩)
theorem x_in (ha : EB K T E X ta Γ fun x => EB K T E X tb Γ fun y => ∃ ds, (y = .tup ds ∨ y = .lst ds) ∧ Okd x ∧ Okd y ∧ P (.bl (ds.any fun z => eqD z x))) : EX K T E X (tOp (vIn K) ta tb) Γ P :=
  x_opB (ha.imp fun x hx => hx.imp fun y ⟨ds, hy, h1, h2, p⟩ S0 J σ H v w rl rv rw' Q q => by
    rcases hy with rfl | rfl
    · refine .inl ⟨toPy x, toPyL ds, rv.dp h1.1, rw'.dp h2.1, h1.2, h2.2, ?_⟩
      rw [toPyL_any]
      exact q _ _ H p rl .refl (.bl _)
    · refine .inr (.inl ⟨toPy x, toPyL ds, rv.dp h1.1, rw'.dp h2.1, h1.2, h2.2, ?_⟩)
      rw [toPyL_any]
      exact q _ _ H p rl .refl (.bl _))
theorem x_inS (ha : EX K T E X ta Γ fun x => EX K T E X tb Γ fun y => ∃ c z, x = .str ⟨#[c]⟩ ∧ y = .str z ∧ P (.bl (decide (c ∈ z.cps.toList)))) : EX K T E X (tOp (vIn K) ta tb) Γ P :=
  x_op (ha.imp fun x hx => hx.imp fun y ⟨c, z, ex, ey, p⟩ S0 J σ H v w rl rv rw' Q q => by
    subst ex; subst ey
    cases rv; cases rw'
    exact .inr (.inr (.inl ⟨c, z, rfl, rfl, q _ _ H p rl .refl (.bl _)⟩)))
theorem x_nin (ha : EB K T E X ta Γ fun x => EB K T E X tb Γ fun y => ∃ ds, (y = .tup ds ∨ y = .lst ds) ∧ Okd x ∧ Okd y ∧ P (.bl (!ds.any fun z => eqD z x))) : EX K T E X (tOp (vNin K) ta tb) Γ P :=
  x_opB (ha.imp fun x hx => hx.imp fun y ⟨ds, hy, h1, h2, p⟩ S0 J σ H v w rl rv rw' Q q => by
    rcases hy with rfl | rfl
    · refine .inl ⟨toPy x, toPyL ds, rv.dp h1.1, rw'.dp h2.1, h1.2, h2.2, ?_⟩
      rw [toPyL_any]
      exact q _ _ H p rl .refl (.bl _)
    · refine .inr (.inl ⟨toPy x, toPyL ds, rv.dp h1.1, rw'.dp h2.1, h1.2, h2.2, ?_⟩)
      rw [toPyL_any]
      exact q _ _ H p rl .refl (.bl _))
/-! ### a sequence: its items stand for data -/
/-- v is a list or a tuple whose items are xs -/
def SqB (K : Fg) (H : Hp) (v : V) (b : Bool) (xs : List V) : Prop := ∃ a, v = .ref a ∧ ((b = true ∧ SqL K H a xs) ∨ (b = false ∧ SqT K H a xs))
def sqD (b : Bool) (ds : List Dt) : Dt := if b then .lst ds else .tup ds
theorem RepB.seq {v : V} {b : Bool} {ds : List Dt} (h : RepB K J S H v (sqD b ds)) : ∃ xs, SqB K H v b xs ∧ RepL K S H xs ds := by
  rcases h with h | ⟨a, xs, ds', rfl, e2, _, e, r⟩
  · cases b with
    | true => cases h with
      | lst h r => exact ⟨_, ⟨_, rfl, .inl ⟨rfl, h.sq⟩⟩, r⟩
    | false => cases h with
      | tup h r => exact ⟨_, ⟨_, rfl, .inr ⟨rfl, h.sq⟩⟩, r⟩
  · cases b with
    | true => cases e2; exact ⟨xs, ⟨a, rfl, .inl ⟨rfl, .inl (.inl e)⟩⟩, r⟩
    | false => cases e2
theorem Rep.seq {v : V} {b : Bool} {ds : List Dt} (h : Rep K S H v (sqD b ds)) : ∃ xs, SqB K H v b xs ∧ RepL K S H xs ds := RepB.seq (J := S) (.inl h)
/-- what len says -/
def lenD : Dt → Option Nat
  | .tup l => some l.length
  | .lst l => some l.length
  | .str s => some s.length
  | _ => none
/-- one argument that is but read -/
theorem x_b1 {r : List V → Hp → VK → Prop} (ha : EB K T E X ta Γ fun x => ∀ (S0 J : Ad) (σ : L2.St) (H : Hp) (v : V), Rel K T S0 J Γ σ H → RepB K J (Sx S0 Γ) H v x →
      ∀ Q : VK, (∀ (z : V) (d : Dt) (H2 : Hp), P d → Rel K T S0 J Γ σ H2 → Nx T J H H2 → Rep K (Sx S0 Γ) H2 z d → Q z H2) → r [v] H Q) : EX K T E X (tCB r (tCons ta tNil)) Γ P := fun S0 J σ H rl xo Q q =>
  ha S0 J σ H rl xo _ fun v x H2 h r2 n2 rv => h S0 J σ H2 v r2 rv Q fun z d H3 p r3 n3 rz => q z d H3 p r3 (n2.trans n3) rz
theorem x_len (ha : EB K T E X ta Γ fun x => (∃ b ds, x = sqD b ds ∧ P (.int ds.length)) ∨ ∃ z : Str, x = .str z ∧ z.length ≤ sizeLine ∧ P (.int z.length)) : EX K T E X (tCB (uLen K) (tCons ta tNil)) Γ P :=
  x_b1 (ha.imp fun x hx S0 J σ H v rl rv Q q => by
    rcases hx with ⟨b, ds, rfl, p⟩ | ⟨z, rfl, hz, p⟩
    · obtain ⟨xs, ⟨a, e, h⟩, rr⟩ := rv.seq
      refine .inl ⟨a, xs, by rw [e], h.imp (·.2) (·.2), ?_⟩
      rw [rr.len]
      exact q _ _ H p rl .refl (.int _)
    · rcases rv with rv | ⟨a, xs, ds', rfl, e2, _⟩
      · cases rv
        exact .inr (.inl ⟨z, rfl, hz, q _ _ H p rl .refl (.int _)⟩)
      · cases e2)
theorem l_list {A : List Dt → Prop} (ha : EB K T E X ta Γ fun x => ∃ b ds, x = sqD b ds ∧ A ds) : EL K T E X (tCB (uList K) (tCons ta tNil)) Γ A := fun S0 J σ H rl xo Q q =>
  ha S0 J σ H rl xo _ fun v x H2 ⟨b, ds, ex, p⟩ r2 n2 rv => by
    subst ex
    obtain ⟨xs, ⟨a, e, h⟩, rr⟩ := rv.seq
    refine ⟨a, xs, by rw [e], h.imp (·.2) (·.2), fun l hl => ?_⟩
    have n3 : ∀ {S : Ad}, Nx T S H2 (upd H2 l (.lst xs)) := fun {S} => .new hl noT_lst
    exact q _ _ _ _ p (r2.nx n3) (n2.trans n3) (n2.dom _ (.of hl)) upd_same (rr.anew (T := T) hl noT_lst)
theorem x_tuple (ha : EB K T E X ta Γ fun x => ∃ b ds, x = sqD b ds ∧ P (.tup ds)) : EX K T E X (tCB (uTuple K) (tCons ta tNil)) Γ P :=
  x_b1 (ha.imp fun x ⟨b, ds, ex, p⟩ S0 J σ H v rl rv Q q => by
    subst ex
    cases b with
    | true =>
      obtain ⟨xs, ⟨a, e, h⟩, rr⟩ := rv.seq
      obtain ⟨_, h⟩ := h.resolve_right fun z => nomatch z.1
      refine ⟨a, xs, by rw [e], .inl ⟨h, fun l hl => ?_⟩⟩
      have n3 : ∀ {S : Ad}, Nx T S H (upd H l (.tup xs)) := fun {S} => .new hl noT_tup
      exact q _ _ _ p (rl.nx n3) n3 (.tup (.inl ⟨rl.fresh (.of hl), .inl upd_same⟩) (rr.nx n3))
    | false =>
      rcases rv with rv | ⟨a, xs, ds', rfl, e2, _⟩
      · cases rv with
        | tup h rr => exact ⟨_, _, rfl, .inr ⟨h.sq, q _ _ H p rl .refl (.tup h rr)⟩⟩
      · cases e2)
theorem x_int1 (ha : EX K T E X ta Γ fun x => ∃ i, x = .int i ∧ P (.int i)) : EX K T E X (tCB uInt (tCons ta tNil)) Γ P := fun S0 J σ H r xo Q q =>
  ha S0 J σ H r xo _ fun v x H2 ⟨i, ex, p⟩ r2 n2 rv => by
    subst ex
    cases rv
    exact .inl ⟨i, rfl, q _ _ H2 p r2 n2 (.int _)⟩
theorem x_bool1 (ha : EX K T E X ta Γ fun x => ∃ b, x = .bl b ∧ P (.bl b)) : EX K T E X (tCB uBool (tCons ta tNil)) Γ P := fun S0 J σ H r xo Q q =>
  ha S0 J σ H r xo _ fun v x H2 ⟨i, ex, p⟩ r2 n2 rv => by
    subst ex
    cases rv
    exact .inr ⟨i, rfl, q _ _ H2 p r2 n2 (.bl _)⟩
theorem x_str1 (ha : EX K T E X ta Γ fun x => ∃ s, x = .str s ∧ P (.str s)) : EX K T E X (tCB uStr (tCons ta tNil)) Γ P := fun S0 J σ H r xo Q q =>
  ha S0 J σ H r xo _ fun v x H2 ⟨i, ex, p⟩ r2 n2 rv => by
    subst ex
    cases rv
    exact .inl ⟨i, rfl, q _ _ H2 p r2 n2 (.str _)⟩
theorem x_max2 (ha : EX K T E X ta Γ fun x => EX K T E X tb Γ fun y => ∃ i j, x = .int i ∧ y = .int j ∧ P (.int (if j > i then j else i))) : EX K T E X (tCB uMax2 (tCons ta (tCons tb tNil))) Γ P := fun S0 J σ H r xo Q q =>
  ha S0 J σ H r xo _ fun v x H2 hb r2 n2 rv => hb S0 J σ H2 r2 (xo.nx n2) _ fun w y H3 ⟨i, j, ex, ey, p⟩ r3 n3 rw' => by
    subst ex; subst ey
    cases rv; cases rw'
    exact ⟨i, j, rfl, q _ _ H3 p r3 (n2.trans n3) (.int _)⟩
/-! ### a place -/
theorem atI_eq {α : Type} {xs : List α} {i : Int} {j : Nat} {x : α} (h : ixN xs.length i = some j) (e : xs[j]? = some x) : atI xs i = some x := by
  unfold atI
  rw [h]
  exact e
theorem x_ix (ha : EB K T E X ta Γ fun x => EX K T E X tb Γ fun y => ∃ b ds i j d, x = sqD b ds ∧ y = .int i ∧ ixN ds.length i = some j ∧ ds[j]? = some d ∧ P d) : EX K T E X (tOp (rIx K) ta tb) Γ P := fun S0 J σ H rl xo Q q =>
  ha S0 J σ H rl xo _ fun v x H2 hb r2 n2 rv => hb S0 J σ H2 r2 (xo.nx n2) _ fun w y H3 ⟨b, ds, i, j, d, ex, ey, h1, h2, p⟩ r3 n3 rw' => by
    subst ex; subst ey
    cases rw'
    have rv3 : RepB K J (Sx S0 Γ) H3 v (sqD b ds) := by
      rcases rv with rv | ⟨a, xs, ds, e1, e2, e3, e4, e5⟩
      · exact .inl (rv.nx (r2.jS n3))
      · exact .inr ⟨a, xs, ds, e1, e2, e3, n3.le _ _ e4 noT_lst e3, e5.nx (r2.jS n3)⟩
    obtain ⟨xs, ⟨a, e, h⟩, rr⟩ := rv3.seq
    subst e
    obtain ⟨z, hz, rz⟩ := rr.get h2
    have hat : atI xs i = some z := atI_eq (by rw [rr.len]; exact h1) hz
    have fin := q z d H3 p r3 (n2.trans n3) rz
    rcases h with ⟨_, h⟩ | ⟨_, h⟩
    · exact .inl ⟨a, xs, i, z, rfl, rfl, h, hat, fin⟩
    · exact .inr (.inl ⟨a, xs, i, z, rfl, rfl, h, hat, fin⟩)
/-! ### a slice -/
def cutD (ds : List Dt) (lo hi : Option Int) : List Dt := (ds.drop (HT.sIx ds.length 0 lo)).take (HT.sIx ds.length ds.length hi - HT.sIx ds.length 0 lo)
theorem RepL.drop {vs : List V} {ds : List Dt} : ∀ (n : Nat), RepL K S H vs ds → ∀ {vs' : List V}, vs' = vs.drop n → RepL K S H vs' (ds.drop n) := fun n => by
  induction n generalizing vs ds with
  | zero => intro r vs' e; subst e; exact r
  | succ n ih =>
    intro r vs' e
    subst e
    cases r with
    | nil => exact .nil
    | cons _ r => exact ih r rfl
theorem RepL.take {vs : List V} {ds : List Dt} : ∀ (n : Nat), RepL K S H vs ds → RepL K S H (vs.take n) (ds.take n) := fun n => by
  induction n generalizing vs ds with
  | zero => intro r; exact .nil
  | succ n ih =>
    intro r
    cases r with
    | nil => exact .nil
    | cons h r => exact .cons h (ih r)
theorem RepL.cut {vs : List V} {ds : List Dt} (r : RepL K S H vs ds) (lo hi : Option Int) : RepL K S H (cutV vs lo hi) (cutD ds lo hi) := by
  unfold cutV cutD
  rw [r.len]
  exact (r.drop _ rfl).take _
/-- a bound of a slice -/
def EO (K : Fg) (T : Tbl) (E : XK) (X : XP) (to : TO) (Γ : List Ent) (P : Option Int → Prop) : Prop := ∀ (S0 J : Ad) (σ : L2.St) (H : Hp), Rel K T S0 J Γ σ H → XOk K T E X S0 J J H → ∀ Q : Option Int → Hp → Prop,
  (∀ (o : Option Int) (H2 : Hp), P o → Rel K T S0 J Γ σ H2 → Nx T J H H2 → Q o H2) → to σ H Q
theorem o_no {O : Option Int → Prop} (p : O none) : EO K T E X tNoPart Γ O := fun S0 J σ H r xo Q q => q none H p r .refl
theorem o_at {O : Option Int → Prop} (h : EX K T E X ta Γ fun x => ∃ i, x = .int i ∧ O (some i)) : EO K T E X (tPart ta) Γ O := fun S0 J σ H r xo Q q =>
  h S0 J σ H r xo _ fun v x H2 ⟨i, ex, p⟩ r2 n2 rv => by
    subst ex
    cases rv
    exact ⟨i, rfl, q _ H2 p r2 n2⟩
theorem l_sl {A : List Dt → Prop} {tl th : TO} (ha : EB K T E X ta Γ fun x => EO K T E X tl Γ fun lo => EO K T E X th Γ fun hi => ∃ ds, x = .lst ds ∧ A (cutD ds lo hi)) : EL K T E X (tSl (uSl K) ta tl th) Γ A := fun S0 J σ H rl xo Q q =>
  ha S0 J σ H rl xo _ fun v x H2 hb r2 n2 rv => hb S0 J σ H2 r2 (xo.nx n2) _ fun lo H3 hc r3 n3 => hc S0 J σ H3 r3 (xo.nx (n2.trans n3)) _ fun hi H4 ⟨ds, ex, p⟩ r4 n4 => by
    subst ex
    have rv4 : RepB K J (Sx S0 Γ) H4 v (sqD true ds) := by
      rcases rv with rv | ⟨a, xs, ds, e1, e2, e3, e4, e5⟩
      · exact .inl ((rv.nx (r2.jS n3)).nx (r3.jS n4))
      · exact .inr ⟨a, xs, ds, e1, e2, e3, (n3.trans n4).le _ _ e4 noT_lst e3, (e5.nx (r2.jS n3)).nx (r3.jS n4)⟩
    obtain ⟨xs, ⟨a, e, h⟩, rr⟩ := rv4.seq
    subst e
    obtain ⟨_, h⟩ := h.resolve_right fun z => nomatch z.1
    refine .inl ⟨a, xs, rfl, h, fun l hl => ?_⟩
    have n5 : ∀ {S : Ad}, Nx T S H4 (upd H4 l (.lst (cutV xs lo hi))) := fun {S} => .new hl noT_lst
    exact q _ _ _ _ p (r4.nx n5) (((n2.trans n3).trans n4).trans n5) (n2.dom _ (n3.dom _ (n4.dom _ (.of hl)))) upd_same ((rr.cut lo hi).anew (T := T) hl noT_lst)
/-! ### lists together -/
/-- .. where one half is but read -/
def EM (K : Fg) (T : Tbl) (E : XK) (X : XP) (te : TE) (Γ : List Ent) (P : List Dt → Prop) : Prop := ∀ (S0 J : Ad) (σ : L2.St) (H : Hp), Rel K T S0 J Γ σ H → XOk K T E X S0 J J H → ∀ Q : VK,
  (∀ (p : Addr) (xs : List V) (ds : List Dt) (H2 : Hp), P ds → Rel K T S0 J Γ σ H2 → Nx T J H H2 → ¬ J p → H2 p = some (.lst xs) → RepL K (Sx S0 Γ) H2 xs ds → Q (.ref p) H2) → te σ H Q
theorem EL.em {A : List Dt → Prop} (h : EL K T E X te Γ A) : EM K T E X te Γ A := fun S0 J σ H r xo Q q => h S0 J σ H r xo Q fun p xs ds H2 a r2 n2 f e l => q p xs ds H2 a r2 n2 (fun z => r.fresh f (.inl (r.js _ z))) e (l.sub (.of Rj.sub))
theorem m_own {A : List Dt → Prop} {i : Nat} {a : Addr} {ds : List Dt} (h : Γ[i]? = some (.own a ds)) (p : A ds) : EM K T E X (tVar i) Γ A := fun S0 J σ H r xo Q q => by
  obtain ⟨e, xs, e2, rl⟩ := r.getO h
  exact ⟨_, e, q _ _ _ H p r .refl (fun z => r.os a (mem_owned h) (r.js _ z)) e2 rl⟩
theorem l_catM {A : List Dt → Prop} (ha : EM K T E X ta Γ fun xs => EM K T E X tb Γ fun ys => xs.length + ys.length ≤ sizeLine ∧ A (xs ++ ys)) : EL K T E X (tOp (uAdd K) ta tb) Γ A := fun S0 J σ H rl xo Q q =>
  ha S0 J σ H rl xo _ fun p1 x1 d1 H2 hb r2 n2 f1 e1 l1 => hb S0 J σ H2 r2 (xo.nx n2) _ fun p2 x2 d2 H3 ⟨hz, p⟩ r3 n3 f2 e2 l2 => by
    have e3 : H3 p1 = some (.lst x1) := n3.le _ _ e1 noT_lst f1
    refine .inr (.inr (.inl ⟨p1, p2, x1, x2, rfl, rfl, e3, e2, by rw [l1.len, l2.len]; exact hz, fun l hl => ?_⟩))
    have n5 : ∀ {S : Ad}, Nx T S H3 (upd H3 l (.lst (x1 ++ x2))) := fun {S} => .new hl noT_lst
    exact q _ _ _ _ p (r3.nx n5) ((n2.trans n3).trans n5) (n2.dom _ (n3.dom _ (.of hl))) upd_same ((RepL.app (l1.nx (r2.jS n3)) l2).anew (T := T) hl noT_lst)
theorem RepL.rep {vs : List V} {ds : List Dt} (r : RepL K S H vs ds) : ∀ n : Nat, RepL K S H (List.replicate n vs).flatten (List.replicate n ds).flatten
  | 0 => .nil
  | n + 1 => by
    rw [List.replicate_succ, List.replicate_succ, List.flatten_cons, List.flatten_cons]
    exact r.app (r.rep n)
theorem l_rep {A : List Dt → Prop} (ha : EM K T E X ta Γ fun xs => EX K T E X tb Γ fun y => ∃ k, y = .int k ∧ -(2 ^ 63) ≤ k ∧ k < 2 ^ 63 ∧ xs.length * k.toNat ≤ sizeLine ∧ A (List.replicate k.toNat xs).flatten) : EL K T E X (tOp uMul ta tb) Γ A := fun S0 J σ H rl xo Q q =>
  ha S0 J σ H rl xo _ fun p1 x1 d1 H2 hb r2 n2 f1 e1 l1 => hb S0 J σ H2 r2 (xo.nx n2) _ fun w y H3 ⟨k, ey, k1, k2, hz, p⟩ r3 n3 rw' => by
    subst ey
    cases rw'
    have e3 : H3 p1 = some (.lst x1) := n3.le _ _ e1 noT_lst f1
    refine .inr (.inr ⟨p1, k, x1, rfl, rfl, e3, k1, k2, by rw [l1.len]; exact hz, fun l hl => ?_⟩)
    have n5 : ∀ {S : Ad}, Nx T S H3 (upd H3 l (.lst (List.replicate k.toNat x1).flatten)) := fun {S} => .new hl noT_lst
    exact q _ _ _ _ p (r3.nx n5) ((n2.trans n3).trans n5) (n2.dom _ (n3.dom _ (.of hl))) upd_same (((l1.nx (r2.jS n3)).rep _).anew (T := T) hl noT_lst)
theorem RepL.rev {vs : List V} {ds : List Dt} (r : RepL K S H vs ds) : RepL K S H vs.reverse ds.reverse := by
  induction vs generalizing ds with
  | nil => cases r; exact .nil
  | cons v vs ih =>
    cases r with
    | cons h r =>
      rw [List.reverse_cons, List.reverse_cons]
      exact (ih r).app (.cons h .nil)
theorem l_revL {A : List Dt → Prop} (ha : EB K T E X ta Γ fun x => ∃ ds, x = .lst ds ∧ A ds.reverse) : EL K T E X (tRevL K ta) Γ A := fun S0 J σ H rl xo Q q =>
  ha S0 J σ H rl xo _ fun v x H2 ⟨ds, ex, p⟩ r2 n2 rv => by
    subst ex
    obtain ⟨xs, ⟨a, e, h⟩, rr⟩ := RepB.seq (b := true) rv
    obtain ⟨_, h⟩ := h.resolve_right fun z => nomatch z.1
    refine ⟨a, xs, e, h, fun l hl => ?_⟩
    have n3 : ∀ {S : Ad}, Nx T S H2 (upd H2 l (.lst xs.reverse)) := fun {S} => .new hl noT_lst
    exact q _ _ _ _ p (r2.nx n3) (n2.trans n3) (n2.dom _ (.of hl)) upd_same (rr.rev.anew (T := T) hl noT_lst)
/-! ### types -/
/-- the built-in type's name -/
def tyD : Dt → Option String
  | .non => some "NoneType"
  | .bl _ => some "bool"
  | .int _ => some "int"
  | .str _ => some "str"
  | .tup _ => some "tuple"
  | .lst _ => some "list"
  | .dct _ => some "dict"
  | .obj _ _ => none
theorem Rep.ty {v : V} {d : Dt} {n : String} (h : Rep K S H v d) (e : tyD d = some n) : TyX K H v (.type n) := by
  cases h with
  | non => cases e; exact .base .non
  | bl b => cases e; exact .base (.bl b)
  | int i => cases e; exact .base (.int i)
  | str s => cases e; exact .base (.str s)
  | tup h _ =>
    cases e
    rcases h with ⟨_, h | ⟨o, h⟩⟩ | ⟨o, its, m, h, hc, _⟩
    · exact .base (.tup h)
    · exact .fTuple h
    · exact .kTuple h hc
  | lst h _ =>
    cases e
    rcases h with ⟨_, h | ⟨o, h⟩⟩ | ⟨o, its, m, h, hc, _⟩
    · exact .base (.lst h)
    · exact .base (.frz h)
    · exact .kList h hc
  | dct _ h _ => cases e; exact .base (.dK h)
  | obj _ _ _ => cases e
theorem RepB.ty {v : V} {d : Dt} {n : String} (h : RepB K J S H v d) (e : tyD d = some n) : TyX K H v (.type n) := by
  rcases h with h | ⟨a, xs, ds, rfl, rfl, _, e2, _⟩
  · exact h.ty e
  · cases e; exact .base (.lst e2)
theorem x_isi {c : String} (ha : EB K T E X ta Γ fun x => ∃ n b, tyD x = some n ∧ kitB n c = some b ∧ P (.bl b)) : EX K T E X (tCB (rIsi K) (tCons ta (tCons (tC (.ty c)) tNil))) Γ P := fun S0 J σ H rl xo Q q =>
  ha S0 J σ H rl xo _ fun v x H2 ⟨n, b, h1, h2, p⟩ r2 n2 rv => ⟨v, .ty c, .type n, .type c, b, rfl, .ty c, rv.ty h1, kit_ty h2, q _ _ H2 p r2 n2 (.bl _)⟩
theorem x_isi2 {c c' : String} (ha : EX K T E X ta Γ fun x => ∃ n b b', tyD x = some n ∧ kitB n c = some b ∧ kitB n c' = some b' ∧ P (.bl (b || b'))) :
    EX K T E X (tCB (rIsiT K) (tCons ta (tCons (tTup (tCons (tC (.ty c)) (tCons (tC (.ty c')) tNil))) tNil))) Γ P := fun S0 J σ H rl xo Q q =>
  ha S0 J σ H rl xo _ fun v x H2 ⟨n, b, b', h1, h2, h3, p⟩ r2 n2 rv => ⟨by show 2 ≤ sizeLine; decide, fun a hn => by
    have n3 : ∀ {S : Ad}, Nx T S H2 (upd H2 a (.tup [.ty c, .ty c'])) := fun {S} => .new hn noT_tup
    refine ⟨v, a, [.ty c, .ty c'], .type n, [.type c, .type c'], b || b', rfl, upd_same, .cons (.ty c) (.cons (.ty c') .nil), (rv.nx n3).ty h1, ?_, q _ _ _ p (r2.nx n3) (n2.trans n3) (.bl _)⟩
    have e1 := kit_ty (K := K) h2
    have e2 := kit_ty (K := K) h3
    cases b <;> cases b' <;> simp [PySem.W.kitAny, e1, e2]⟩
/-! ### all, sorted -/
theorem RepL.bools {bs : List Bool} : ∀ {vs : List V}, RepL K S H vs (bs.map Dt.bl) → vs = bs.map V.bl := by
  induction bs with
  | nil => intro vs r; cases r; rfl
  | cons b bs ih =>
    intro vs r
    cases r with
    | cons h r => cases h; rw [ih r]; rfl
theorem RepL.strs {bs : List Str} : ∀ {vs : List V}, RepL K S H vs (bs.map Dt.str) → vs = bs.map V.str := by
  induction bs with
  | nil => intro vs r; cases r; rfl
  | cons b bs ih =>
    intro vs r
    cases r with
    | cons h r => cases h; rw [ih r]; rfl
theorem RepL.ofStrs : ∀ {bs : List Str}, RepL K S H (bs.map V.str) (bs.map Dt.str)
  | [] => .nil
  | _ :: _ => .cons (.str _) RepL.ofStrs
theorem x_all (ha : EB K T E X ta Γ fun x => ∃ bs : List Bool, x = .lst (bs.map Dt.bl) ∧ P (.bl (bs.all id))) : EX K T E X (tCB (rAll K) (tCons ta tNil)) Γ P :=
  x_b1 (ha.imp fun x ⟨bs, ex, p⟩ S0 J σ H v rl rv Q q => by
    subst ex
    obtain ⟨xs, ⟨a, e, h⟩, rr⟩ := RepB.seq (b := true) rv
    obtain ⟨_, h⟩ := h.resolve_right fun z => nomatch z.1
    rw [rr.bools] at h
    exact ⟨a, bs, by rw [e], h, q _ _ H p rl .refl (.bl _)⟩)
theorem x_any (ha : EB K T E X ta Γ fun x => ∃ bs : List Bool, x = .lst (bs.map Dt.bl) ∧ P (.bl (bs.any id))) : EX K T E X (tCB (rAny K) (tCons ta tNil)) Γ P :=
  x_b1 (ha.imp fun x ⟨bs, ex, p⟩ S0 J σ H v rl rv Q q => by
    subst ex
    obtain ⟨xs, ⟨a, e, h⟩, rr⟩ := RepB.seq (b := true) rv
    obtain ⟨_, h⟩ := h.resolve_right fun z => nomatch z.1
    rw [rr.bools] at h
    exact ⟨a, bs, by rw [e], h, q _ _ H p rl .refl (.bl _)⟩)
theorem l_sortS {A : List Dt → Prop} (ha : EB K T E X ta Γ fun x => ∃ xs : List Str, x = .lst (xs.map Dt.str) ∧ xs.length < 64 ∧ ∀ ys : List Str, ys.Perm xs → sortedS ys = true → A (ys.map Dt.str)) : EL K T E X (tCB (rSortedS K) (tCons ta tNil)) Γ A := fun S0 J σ H rl xo Q q =>
  ha S0 J σ H rl xo _ fun v x H2 ⟨zs, ex, hz, p⟩ r2 n2 rv => by
    subst ex
    obtain ⟨xs, ⟨a, e, h⟩, rr⟩ := RepB.seq (b := true) rv
    obtain ⟨_, h⟩ := h.resolve_right fun z => nomatch z.1
    rw [rr.strs] at h
    refine ⟨a, zs, by rw [e], h, hz, fun ys l hp hs hl => ?_⟩
    have n3 : ∀ {S : Ad}, Nx T S H2 (upd H2 l (.lst (ys.map V.str))) := fun {S} => .new hl noT_lst
    exact q _ _ _ _ (p ys hp hs) (r2.nx n3) (n2.trans n3) (n2.dom _ (.of hl)) upd_same RepL.ofStrs
/-! ### a < b < c -/
theorem x_chain2 {g h : Int → Int → Bool} {r r' : R2} (hr : ∀ i j H Q, Q (.bl (g i j)) H → r (.int i) (.int j) H Q) (hr' : ∀ i j H Q, Q (.bl (h i j)) H → r' (.int i) (.int j) H Q)
    (ha : EX K T E X ta Γ fun x => EX K T E X tb Γ fun y => ∃ i j, x = .int i ∧ y = .int j ∧ (g i j = true → EX K T E X tc Γ fun z => ∃ k, z = .int k ∧ P (.bl (h j k))) ∧ (g i j = false → P (.bl false))) :
    EX K T E X (tChain r r' ta tb tc) Γ P := fun S0 J σ H rl xo Q q =>
  ha S0 J σ H rl xo _ fun v x H2 hb r2 n2 rv => hb S0 J σ H2 r2 (xo.nx n2) _ fun w y H3 ⟨i, j, ex, ey, h1, h2⟩ r3 n3 rw' => by
    subst ex; subst ey
    cases rv; cases rw'
    refine hr i j H3 _ ⟨g i j, rfl, ?_⟩
    cases hg : g i j with
    | true =>
      rw [if_pos rfl]
      refine h1 hg S0 J σ H3 r3 (xo.nx (n2.trans n3)) _ fun z d H4 ⟨k, ez, p⟩ r4 n4 rz => ?_
      subst ez
      cases rz
      exact hr' j k H4 _ (q _ _ H4 p r4 ((n2.trans n3).trans n4) (.bl _))
    | false =>
      rw [if_neg (by simp)]
      exact q _ _ H3 (h2 hg) r3 (n2.trans n3) (.bl _)
end
end Lp

set_option Elab.async false
set_option linter.all false
set_option maxRecDepth 100000
set_option maxHeartbeats 4000000
/-! L8: statements over data; targets, walks, comprehensions, calls, defs. Own work. -/
namespace Lp
open PySem PySem.Spec PyProof.Rows L2 LamX
/-- what a def gives: data; a new list that nobody else holds; a new pair of data and such a list -/
inductive Rt where
  | val (d : Dt) | new (ds : List Dt) | pair (d : Dt) (ds : List Dt)
def Rt.dt : Rt → Dt
  | .val d => d
  | .new ds => .lst ds
  | .pair d ds => .tup [d, .lst ds]
/-- O: what stood there when the def began (but for its own lists) -/
def RepR (K : Fg) (S O : Ad) (H : Hp) (v : V) : Rt → Prop
  | .val d => Rep K S H v d
  | .new ds => ∃ p xs, v = .ref p ∧ ¬ S p ∧ O p ∧ H p = some (.lst xs) ∧ RepL K (Rj S p) H xs ds
  | .pair d ds => ∃ t w p xs, v = .ref t ∧ ¬ S t ∧ H t = some (.tup [w, .ref p]) ∧ t ≠ p ∧ ¬ S p ∧ O p ∧ H p = some (.lst xs) ∧ Rep K (Rj S p) H w d ∧ RepL K (Rj S p) H xs ds
def Og (Γ : List Ent) (H : Hp) : Ad := fun p => p ∈ owned Γ ∨ Fre H p
section
variable {K : Fg} {T : Tbl} {E : XK} {X : XP} {S S' S0 J O O' : Ad} {H H1 H2 : Hp} {Γ Γ1 Γ' : List Ent} {σ σ' : L2.St}
theorem RepR.rep {v : V} : ∀ {r : Rt}, RepR K S O H v r → Rep K S H v r.dt
  | .val _, h => h
  | .new _, ⟨p, xs, e, h1, _, h2, h3⟩ => by rw [e]; exact .lst (.inl ⟨h1, .inl h2⟩) (h3.sub (.of Rj.sub))
  | .pair _ _, ⟨t, w, p, xs, e, h0, h1, _, h2, _, h3, h4, h5⟩ => by
    rw [e]
    exact .tup (.inl ⟨h0, .inl h1⟩) (.cons (h4.sub (.of Rj.sub)) (.cons (.lst (.inl ⟨h2, .inl h3⟩) (h5.sub (.of Rj.sub))) .nil))
theorem RepR.mono {v : V} (h : ∀ a, O a → O' a) : ∀ {r : Rt}, RepR K S O H v r → RepR K S O' H v r
  | .val _, q => q
  | .new _, ⟨p, xs, e, h1, ho, h2⟩ => ⟨p, xs, e, h1, h p ho, h2⟩
  | .pair _ _, ⟨t, w, p, xs, e, h0, h1, hn, h2, ho, h3⟩ => ⟨t, w, p, xs, e, h0, h1, hn, h2, h p ho, h3⟩
theorem Og.go (g : Go T J Γ H Γ' H1) : ∀ a, Og Γ' H1 a → Og Γ H a := fun a h => by
  rcases h with h | h
  · exact g.own a h
  · exact .inr (g.nx.dom a h)
/-- a statement, over data -/
def SW (K : Fg) (T : Tbl) (E : XK) (X : XP) (ts : TS) (Γ : List Ent) (N : List Ent → Prop) (R : Rt → List Ent → Prop) (B C : List Ent → Prop) : Prop := ∀ (S0 J : Ad) (σ : L2.St) (H : Hp), Rel K T S0 J Γ σ H → XOk K T E X S0 J (Sx J Γ) H → ∀ D : Ends,
  (∀ Γ' σ' H', N Γ' → Rel K T S0 J Γ' σ' H' → Go T J Γ H Γ' H' → D.nx σ' H') →
  (∀ r v Γ' σ' H', R r Γ' → Rel K T S0 J Γ' σ' H' → Go T J Γ H Γ' H' → RepR K S0 (Og Γ H) H' v r → D.rt v H') →
  (∀ Γ' σ' H', B Γ' → Rel K T S0 J Γ' σ' H' → Go T J Γ H Γ' H' → D.bk σ' H') →
  (∀ Γ' σ' H', C Γ' → Rel K T S0 J Γ' σ' H' → Go T J Γ H Γ' H' → D.ct σ' H') → ts D σ H
variable {N N' : List Ent → Prop} {R : Rt → List Ent → Prop} {B C : List Ent → Prop} {ts tu : TS} {te ta tb : TE} {tt : TT} {tr : TA} {P : Dt → Prop}
theorem Rel.go (r : Rel K T S0 J Γ σ H) (n : Nx T J H H1) : Go T J Γ H Γ H1 := ⟨n.mono fun _ z => .inl z, fun p h => .inl h⟩
theorem s_next (p : N Γ) : SW K T E X tNext Γ N R B C := fun S0 J σ H r xo D n _ _ _ => n Γ σ H p r .refl
theorem s_pass (p : N Γ) : SW K T E X tNext Γ N R B C := s_next p
theorem s_brk (p : B Γ) : SW K T E X tBreak Γ N R B C := fun S0 J σ H r xo D _ _ b _ => b Γ σ H p r .refl
theorem s_ct (p : C Γ) : SW K T E X tCont Γ N R B C := fun S0 J σ H r xo D _ _ _ c => c Γ σ H p r .refl
theorem s_seq (h : SW K T E X ts Γ (fun Γ' => SW K T E X tu Γ' N R B C) R B C) : SW K T E X (tSeq ts tu) Γ N R B C := fun S0 J σ H r xo D n rt b c =>
  h S0 J σ H r xo _ (fun Γ1 σ1 H1 q r1 g1 => q S0 J σ1 H1 r1 (xo.go g1) D (fun Γ2 σ2 H2 a r2 g2 => n Γ2 σ2 H2 a r2 (g1.trans g2)) (fun rr v Γ2 σ2 H2 a r2 g2 z => rt rr v Γ2 σ2 H2 a r2 (g1.trans g2) (z.mono (Og.go g1)))
    (fun Γ2 σ2 H2 a r2 g2 => b Γ2 σ2 H2 a r2 (g1.trans g2)) (fun Γ2 σ2 H2 a r2 g2 => c Γ2 σ2 H2 a r2 (g1.trans g2))) rt b c
theorem s_if (h : ET K T E X tt Γ fun b => (b = true → SW K T E X ts Γ N R B C) ∧ (b = false → SW K T E X tu Γ N R B C)) : SW K T E X (tIfS tt ts tu) Γ N R B C := fun S0 J σ H r xo D n rt b c =>
  h S0 J σ H r xo.ex _ fun k H1 q r1 n1 => by
    have g1 := r.go n1
    cases k with
    | true =>
      show ts D σ H1
      exact q.1 rfl S0 J σ H1 r1 (xo.nxs n1) D (fun Γ2 σ2 H2 a r2 g2 => n Γ2 σ2 H2 a r2 (g1.trans g2)) (fun rr v Γ2 σ2 H2 a r2 g2 z => rt rr v Γ2 σ2 H2 a r2 (g1.trans g2) (z.mono (Og.go g1)))
        (fun Γ2 σ2 H2 a r2 g2 => b Γ2 σ2 H2 a r2 (g1.trans g2)) (fun Γ2 σ2 H2 a r2 g2 => c Γ2 σ2 H2 a r2 (g1.trans g2))
    | false =>
      show tu D σ H1
      exact q.2 rfl S0 J σ H1 r1 (xo.nxs n1) D (fun Γ2 σ2 H2 a r2 g2 => n Γ2 σ2 H2 a r2 (g1.trans g2)) (fun rr v Γ2 σ2 H2 a r2 g2 z => rt rr v Γ2 σ2 H2 a r2 (g1.trans g2) (z.mono (Og.go g1)))
        (fun Γ2 σ2 H2 a r2 g2 => b Γ2 σ2 H2 a r2 (g1.trans g2)) (fun Γ2 σ2 H2 a r2 g2 => c Γ2 σ2 H2 a r2 (g1.trans g2))
theorem Sx.sub0 : ∀ b, S0 b → Sx S0 Γ b := fun _ h => .inl h
theorem s_ret (h : EX K T E X te Γ fun d => R (.val d) Γ) : SW K T E X (tRet te) Γ N R B C := fun S0 J σ H r xo D n rt b c =>
  h S0 J σ H r xo.ex _ fun v d H1 p r1 n1 rv => rt (.val d) v Γ σ H1 p r1 (r.go n1) (rv.sub (.of Sx.sub0))
theorem s_retN (p : R (.val .non) Γ) : SW K T E X tRetN Γ N R B C := fun S0 J σ H r xo D n rt b c => rt (.val .non) .non Γ σ H p r .refl .non
/-- a list of the def's own is given out -/
theorem s_retO {i : Nat} {a : Addr} {ds : List Dt} (h : Γ[i]? = some (.own a ds)) (p : R (.new ds) Γ) : SW K T E X (tRet (tVar i)) Γ N R B C := fun S0 J σ H r xo D n rt b c => by
  obtain ⟨e, xs, e2, rl⟩ := r.getO h
  refine ⟨_, e, rt (.new ds) _ Γ σ H p r .refl ⟨a, xs, rfl, r.os a (mem_owned h), .inl (mem_owned h), e2, rl.sub (.of fun b z => ?_)⟩⟩
  rcases z with z | z
  · exact .inl z
  · rw [z]; exact .inr (mem_owned h)
theorem s_drop (h : EX K T E X te Γ fun _ => N Γ) : SW K T E X (tDrop te) Γ N R B C := fun S0 J σ H r xo D n rt b c =>
  h S0 J σ H r xo.ex _ fun v d H1 p r1 n1 rv => n Γ σ H1 p r1 (r.go n1)
theorem Go.setV {i : Nat} {d : Dt} : Go T J Γ H (Γ.set i (.val d)) H := ⟨.refl, fun p h => by
  rcases owned_set Γ p h with q | q
  · exact .inl q
  · cases q⟩
theorem s_asg {i : Nat} (h : EX K T E X te Γ fun d => N (Γ.set i (.val d))) : SW K T E X (tAsg te (gName i)) Γ N R B C := fun S0 J σ H r xo D n rt b c =>
  h S0 J σ H r xo.ex _ fun v d H1 p r1 n1 rv => n _ _ H1 p (r1.setV rv) ((r.go n1).trans Go.setV)
/-- a new list at slot i -/
theorem Rel.newO {i : Nat} {p : Addr} {xs : List V} {ds : List Dt} (r : Rel K T S0 J Γ σ H) (hz : S0 p → False) (h2 : p ∉ owned Γ) (hp : H p = some (.lst xs)) (hx : RepL K (Rj (Sx S0 Γ) p) H xs ds)
    (fr : ∀ (k : Nat) (o : Option V) (e : Ent), σ[k]? = some o → Γ[k]? = some e → At K J (Rj (Sx S0 Γ) p) H o e) : Rel K T S0 J (Γ.set i (.own p ds)) (σ.set i (some (.ref p))) H := by
  have sub : ∀ b, Sx S0 (Γ.set i (.own p ds)) b → Rj (Sx S0 Γ) p b := fun b z => by
    rcases z with z | z
    · exact .inl (.inl z)
    · rcases owned_set Γ b z with q | q
      · exact .inl (.inr q)
      · exact .inr (List.mem_singleton.mp q)
  refine r.setO hp (hx.sub (.of sub)) hz h2 fun k o e _ g1 g2 => ?_
  have q := fr k o e g1 g2
  cases e with
  | emp => trivial
  | val d => obtain ⟨v, e1, e2⟩ := q; exact ⟨v, e1, e2.sub (.of sub)⟩
  | own p ds => obtain ⟨e1, xs, e2, e3⟩ := q; exact ⟨e1, xs, e2, e3.sub (.of sub)⟩
  | jar j => exact q
/-- what is told of slots where p is new: p is not met -/
theorem Rel.notNew {p : Addr} (r : Rel K T S0 J Γ σ H) (hp : Fre H p) (n : Nx T J H H1) : ∀ (k : Nat) (o : Option V) (e : Ent), σ[k]? = some o → Γ[k]? = some e → At K J (Rj (Sx S0 Γ) p) H1 o e := fun k o e g1 g2 => by
  have q := r.at_ k o e g1 g2
  have s : Sub (Sx S0 Γ) (Rj (Sx S0 Γ) p) H := Rj.new hp
  have n' : Nx T (Rj (Sx S0 Γ) p) H H1 := n.mono fun b z => .inl (.inl (r.js b z))
  cases e with
  | emp => trivial
  | val d => obtain ⟨v, e1, e2⟩ := q; exact ⟨v, e1, (e2.sub s).nx n'⟩
  | own p ds => obtain ⟨e1, xs, e2, e3⟩ := q; exact ⟨e1, xs, n.le _ _ e2 noT_lst fun z => r.os _ (mem_owned g2) (r.js _ z), (e3.sub s).nx n'⟩
  | jar j => exact q
theorem Rel.newNot {p : Addr} (r : Rel K T S0 J Γ σ H) (hp : Fre H p) : p ∉ owned Γ := fun z => r.fresh hp (.inr z)
theorem Go.newO {i : Nat} {p : Addr} {ds : List Dt} (n : Nx T J H H1) (hp : Fre H p) : Go T J Γ H (Γ.set i (.own p ds)) H1 := ⟨n.mono fun _ z => .inl z, fun q hq => by
    rcases owned_set Γ q hq with z | z
    · exact .inl z
    · rw [List.mem_singleton.mp z]; exact .inr hp⟩
theorem s_asgO {i : Nat} (h : EL K T E X te Γ fun ds => ∀ p, p ∉ owned Γ → N (Γ.set i (.own p ds))) : SW K T E X (tAsg te (gName i)) Γ N R B C := fun S0 J σ H r xo D n rt b c =>
  h S0 J σ H r xo.ex _ fun p xs ds H2 a r2 n2 h1 h2 rl => n _ _ H2 (a p (r.newNot h1)) (r2.newO (fun z => r.wf p z h1) (r.newNot h1) h2 rl (r.notNew h1 n2)) (.newO n2 h1)
end
end Lp

set_option Elab.async false
set_option linter.all false
set_option maxRecDepth 100000
set_option maxHeartbeats 4000000
/-! L9: lists of the def's own change; targets; walks; comprehensions. Own work. -/
namespace Lp
open PySem PySem.Spec PyProof.Rows L2 LamX
section
variable {K : Fg} {T : Tbl} {E : XK} {X : XP} {S S' S0 J O O' : Ad} {H H1 H2 : Hp} {Γ Γ1 Γ' : List Ent} {σ σ' : L2.St}
variable {N N' : List Ent → Prop} {R : Rt → List Ent → Prop} {B C : List Ent → Prop} {ts tu : TS} {te ta tb : TE} {tt : TT} {tr : TA} {P : Dt → Prop} {A : List Dt → Prop}
theorem owned_same : ∀ {Γ : List Ent} {i : Nat} {e e' : Ent}, Γ[i]? = some e → ownA e' = ownA e → owned (Γ.set i e') = owned Γ
  | [], _, _, _, h, _ => by cases h
  | x :: Γ, 0, e, e', h, q => by
    cases h
    show ownA e' ++ owned Γ = ownA x ++ owned Γ
    rw [q]
  | x :: Γ, i + 1, e, e', h, q => by
    show ownA x ++ owned (Γ.set i e') = ownA x ++ owned Γ
    rw [owned_same (by simpa using h) q]
theorem owned_own {i : Nat} {p : Addr} {ds ds' : List Dt} (h : Γ[i]? = some (.own p ds)) : owned (Γ.set i (.own p ds')) = owned Γ := owned_same (e' := .own p ds') h rfl
theorem Sx.same {i : Nat} {p : Addr} {ds ds' : List Dt} (h : Γ[i]? = some (.own p ds)) : Sx S0 (Γ.set i (.own p ds')) = Sx S0 Γ := by
  unfold Sx
  rw [owned_own h]
/-- the list at slot i gets other items -/
theorem Rel.chO {i : Nat} {p : Addr} {ds ds' : List Dt} {xs' : List V} (r : Rel K T S0 J Γ σ H) (h : Γ[i]? = some (.own p ds)) (hx : RepL K (Sx S0 Γ) H xs' ds') : Rel K T S0 J (Γ.set i (.own p ds')) σ (upd H p (.lst xs')) := by
  obtain ⟨es, xs, ep, rl⟩ := r.getO h
  have hm := mem_owned h
  have n : Nx T (Sx S0 Γ) H (upd H p (.lst xs')) := .put (.inr hm) ep trivial
  have hns : ¬ S0 p := r.os p hm
  have nS : Nx T (fun a => a = p) H (upd H p (.lst xs')) := .put rfl ep trivial
  refine ⟨r.js, fun a ha => (r.jr a ha).nx nS fun z => hns (by rw [← z]; exact r.js _ ha), fun a ha z => r.wf a ha (nS.dom a z), nS.tab r.tb, by rw [owned_own h]; exact r.nd, by rw [owned_own h]; exact r.os, by rw [List.length_set]; exact r.len, fun k o e h1 h2 => ?_⟩
  rw [Sx.same h]
  by_cases hk : k = i
  · subst hk
    have hl := (List.getElem?_eq_some_iff.mp h2).1
    rw [List.length_set] at hl
    rw [List.getElem?_set_self hl] at h2
    cases h2
    rw [es] at h1
    cases h1
    exact ⟨rfl, xs', upd_same, hx.nx n⟩
  · rw [List.getElem?_set_ne (Ne.symm hk)] at h2
    have q := r.at_ k o e h1 h2
    cases e with
    | emp => trivial
    | val d => obtain ⟨v, e1, e2⟩ := q; exact ⟨v, e1, e2.nx n⟩
    | own b bs =>
      obtain ⟨e1, xs, e2, e3⟩ := q
      have hne : b ≠ p := fun z => by
        subst z
        exact nd_two r.nd h h2 (Ne.symm hk)
      exact ⟨e1, xs, by rw [upd_ne hne]; exact e2, e3.nx n⟩
    | jar j => exact q
where
  nd_two {Γ : List Ent} {p : Addr} {ds ds' : List Dt} (nd : (owned Γ).Nodup) {i k : Nat} (h : Γ[i]? = some (.own p ds)) (h2 : Γ[k]? = some (.own p ds')) (hne : i ≠ k) : False := by
    induction Γ generalizing i k with
    | nil => cases h
    | cons x Γ ih =>
      have nd' : (ownA x ++ owned Γ).Nodup := nd
      obtain ⟨n1, n2, n3⟩ := List.nodup_append.mp nd'
      cases i with
      | zero =>
        cases k with
        | zero => exact hne rfl
        | succ k =>
          cases h
          exact n3 p (List.mem_singleton.mpr rfl) p (mem_owned (by simpa using h2)) rfl
      | succ i =>
        cases k with
        | zero =>
          cases h2
          exact n3 p (List.mem_singleton.mpr rfl) p (mem_owned (by simpa using h)) rfl
        | succ k => exact ih n2 (by simpa using h) (by simpa using h2) fun z => hne (by rw [z])
theorem Go.chO {i : Nat} {p : Addr} {ds ds' : List Dt} {xs' : List V} (r : Rel K T S0 J Γ σ H) (h : Γ[i]? = some (.own p ds)) : Go T J Γ H (Γ.set i (.own p ds')) (upd H p (.lst xs')) := by
  obtain ⟨es, xs, ep, rl⟩ := r.getO h
  exact ⟨.put (.inr (mem_owned h)) ep trivial, fun q hq => .inl (by rw [owned_own h] at hq; exact hq)⟩
/-- a list of the def's own is from now on data -/
theorem Rel.forget {i : Nat} {p : Addr} {ds : List Dt} (r : Rel K T S0 J Γ σ H) (h : Γ[i]? = some (.own p ds)) : Rel K T S0 J (Γ.set i (.val (.lst ds))) σ H := by
  obtain ⟨es, xs, ep, rl⟩ := r.getO h
  have nin : p ∉ owned (Γ.set i (.val (.lst ds))) := fun z => by
    obtain ⟨e, he, hp⟩ := List.mem_flatMap.mp z
    obtain ⟨k, hk⟩ := List.getElem?_of_mem he
    by_cases hki : k = i
    · subst hki
      have hl := (List.getElem?_eq_some_iff.mp hk).1
      rw [List.length_set] at hl
      rw [List.getElem?_set_self hl] at hk
      cases hk
      cases hp
    · rw [List.getElem?_set_ne (Ne.symm hki)] at hk
      cases e with
      | own b bs =>
        have : p = b := List.mem_singleton.mp hp
        subst this
        exact Rel.chO.nd_two r.nd h hk (Ne.symm hki)
      | emp => cases hp
      | val d => cases hp
      | jar j => cases hp
  have v : Rep K (Sx S0 (Γ.set i (.val (.lst ds)))) H (.ref p) (.lst ds) := by
    refine .lst (.inl ⟨fun z => ?_, .inl ep⟩) (rl.sub (.of fun b z => ?_))
    · rcases z with z | z
      · exact r.os p (mem_owned h) z
      · exact nin z
    · rcases z with z | z
      · exact .inl z
      · rcases owned_set Γ b z with q | q
        · exact .inr q
        · cases q
  have q : σ = σ.set i (some (.ref p)) := by
    apply List.ext_getElem?
    intro k
    by_cases hki : i = k
    · subst hki
      have hl := (List.getElem?_eq_some_iff.mp es).1
      rw [List.getElem?_set_self hl]
      exact es
    · rw [List.getElem?_set_ne hki]
  have sub : ∀ b, Sx S0 (Γ.set i (.val (.lst ds))) b → Sx S0 Γ b := fun b z => by
    rcases z with z | z
    · exact .inl z
    · rcases owned_set Γ b z with q | q
      · exact .inr q
      · cases q
  refine ⟨r.js, r.jr, r.wf, r.tb, nodup_set r.nd (fun p hp => by cases hp) List.nodup_nil, fun p hp => ?_, by rw [List.length_set]; exact r.len, fun k o e h1 h2 => ?_⟩
  · rcases owned_set Γ p hp with q | q
    · exact r.os p q
    · cases q
  · by_cases hk : k = i
    · subst hk
      have hl := (List.getElem?_eq_some_iff.mp h2).1
      rw [List.length_set] at hl
      rw [List.getElem?_set_self hl] at h2
      rw [es] at h1
      cases h1; cases h2
      exact ⟨_, rfl, v⟩
    · rw [List.getElem?_set_ne (Ne.symm hk)] at h2
      have q := r.at_ k o e h1 h2
      cases e with
      | emp => trivial
      | val d => obtain ⟨v, e1, e2⟩ := q; exact ⟨v, e1, e2.sub (.of sub)⟩
      | own p ds => obtain ⟨e1, xs, e2, e3⟩ := q; exact ⟨e1, xs, e2, e3.sub (.of sub)⟩
      | jar j => exact q
theorem s_forget {i : Nat} {p : Addr} {ds : List Dt} (h : Γ[i]? = some (.own p ds)) (q : SW K T E X ts (Γ.set i (.val (.lst ds))) N R B C) : SW K T E X ts Γ N R B C := fun S0 J σ H r xo D n rt b c => by
  have g : Go T J Γ H (Γ.set i (.val (.lst ds))) H := .setV
  exact q S0 J σ H (r.forget h) (xo.go g) D (fun Γ2 σ2 H2 a r2 g2 => n Γ2 σ2 H2 a r2 (g.trans g2)) (fun rr v Γ2 σ2 H2 a r2 g2 z => rt rr v Γ2 σ2 H2 a r2 (g.trans g2) (z.mono (Og.go g)))
    (fun Γ2 σ2 H2 a r2 g2 => b Γ2 σ2 H2 a r2 (g.trans g2)) (fun Γ2 σ2 H2 a r2 g2 => c Γ2 σ2 H2 a r2 (g.trans g2))
theorem RepL.snoc {xs : List V} {ds : List Dt} {v : V} {d : Dt} (h : RepL K S H xs ds) (g : Rep K S H v d) : RepL K S H (xs ++ [v]) (ds ++ [d]) := h.app (.cons g .nil)
theorem RepL.set {xs : List V} {ds : List Dt} {v : V} {d : Dt} (g : Rep K S H v d) : ∀ {xs : List V} {ds : List Dt} {j : Nat}, RepL K S H xs ds → RepL K S H (xs.set j v) (ds.set j d)
  | _, _, _, .nil => .nil
  | _, _, 0, .cons _ r => .cons g r
  | _, _, j + 1, .cons h r => .cons h (RepL.set (xs := xs) (ds := ds) g r)
theorem RepL.erase : ∀ {xs : List V} {ds : List Dt} {j : Nat}, RepL K S H xs ds → RepL K S H (xs.eraseIdx j) (ds.eraseIdx j)
  | _, _, _, .nil => .nil
  | _, _, 0, .cons _ r => r
  | _, _, j + 1, .cons h r => .cons h (RepL.erase r)
/-- xs.append(e) -/
theorem s_append {i : Nat} {p : Addr} {ds : List Dt} (h : Γ[i]? = some (.own p ds)) (hl : ds.length < sizeLine) (he : EX K T E X te Γ fun d => N (Γ.set i (.own p (ds ++ [d])))) :
    SW K T E X (tDrop (tBM K "list" rAppend (tVar i) (tCons te tNil))) Γ N R B C := fun S0 J σ H r xo D n rt b c => by
  obtain ⟨es, xs, ep, rl⟩ := r.getO h
  refine ⟨.ref p, es, .inl ⟨rfl, xs, .inl (.inl ep)⟩, ?_⟩
  refine he S0 J σ H r xo.ex _ fun v d H2 a r2 n2 rv => ?_
  obtain ⟨_, xs2, ep2, rl2⟩ := r2.getO h
  exact ⟨p, xs2, v, rfl, rfl, ep2, by rw [rl2.len]; exact hl, n _ _ _ a (r2.chO h (rl2.snoc rv)) ((r.go n2).trans (.chO r2 h))⟩
/-- xs.extend(e) -/
theorem s_extend {i : Nat} {p : Addr} {ds : List Dt} (h : Γ[i]? = some (.own p ds)) (he : EL K T E X te Γ fun es => ds.length + es.length ≤ sizeLine ∧ N (Γ.set i (.own p (ds ++ es)))) :
    SW K T E X (tDrop (tBM K "list" rExtend (tVar i) (tCons te tNil))) Γ N R B C := fun S0 J σ H r xo D n rt b c => by
  obtain ⟨es, xs, ep, rl⟩ := r.getO h
  refine ⟨.ref p, es, .inl ⟨rfl, xs, .inl (.inl ep)⟩, ?_⟩
  refine he S0 J σ H r xo.ex _ fun q zs ez H2 ⟨hz, a⟩ r2 n2 f2 e2 rz => ?_
  obtain ⟨_, xs2, ep2, rl2⟩ := r2.getO h
  exact ⟨p, q, xs2, zs, rfl, rfl, ep2, e2, by rw [rl2.len, rz.len]; exact hz, n _ _ _ a (r2.chO h (rl2.app (rz.sub (.of Rj.sub)))) ((r.go n2).trans (.chO r2 h))⟩
/-- ys.append(xs.pop(e)) -/
theorem s_appPop {i k : Nat} {p q : Addr} {ds es : List Dt} (hik : i ≠ k) (h : Γ[i]? = some (.own p ds)) (hk : Γ[k]? = some (.own q es)) (hl : ds.length < sizeLine)
    (he : EX K T E X te Γ fun d => ∃ (m : Int) (j : Nat) (x : Dt), d = .int m ∧ -(2 ^ 63) ≤ m ∧ m < 2 ^ 63 ∧ seqIndex? m es.length = some j ∧ es[j]? = some x ∧ N ((Γ.set k (.own q (es.eraseIdx j))).set i (.own p (ds ++ [x])))) :
    SW K T E X (tDrop (tBM K "list" rAppend (tVar i) (tCons (tBM K "list" rPopAt (tVar k) (tCons te tNil)) tNil))) Γ N R B C := fun S0 J σ H r xo D n rt b c => by
  obtain ⟨es1, xs, ep, rl⟩ := r.getO h
  obtain ⟨es2, ys, eq, rm⟩ := r.getO hk
  refine ⟨.ref p, es1, .inl ⟨rfl, xs, .inl (.inl ep)⟩, .ref q, es2, .inl ⟨rfl, ys, .inl (.inl eq)⟩, ?_⟩
  refine he S0 J σ H r xo.ex _ fun v d H2 ⟨m, j, x, ed, m1, m2, hj, hx, a⟩ r2 n2 rv => ?_
  subst ed
  cases rv
  obtain ⟨_, ys2, eq2, rm2⟩ := r2.getO hk
  obtain ⟨z, hz, rz⟩ := rm2.get hx
  refine ⟨q, ys2, m, j, z, rfl, rfl, eq2, m1, m2, by rw [rm2.len]; exact hj, hz, ?_⟩
  have r3 := r2.chO hk (rm2.erase (j := j))
  have g3 : Go T J Γ H2 (Γ.set k (.own q (es.eraseIdx j))) (upd H2 q (.lst (ys2.eraseIdx j))) := .chO r2 hk
  have h3 : (Γ.set k (.own q (es.eraseIdx j)))[i]? = some (.own p ds) := by rw [List.getElem?_set_ne (Ne.symm hik)]; exact h
  obtain ⟨_, xs3, ep3, rl3⟩ := r3.getO h3
  have rz3 : Rep K (Sx S0 (Γ.set k (.own q (es.eraseIdx j)))) (upd H2 q (.lst (ys2.eraseIdx j))) z x := by
    rw [Sx.same hk]
    exact rz.nx (T := T) (.put (.inr (mem_owned hk)) eq2 trivial)
  exact ⟨p, xs3, z, rfl, rfl, ep3, by rw [rl3.len]; exact hl, n _ _ _ a (r3.chO h3 (rl3.snoc rz3)) (((r.go n2).trans g3).trans (.chO r3 h3))⟩
/-! ### targets: L tells which slots may change -/
def SG (K : Fg) (T : Tbl) (E : XK) (X : XP) (g : TG) (d : Dt) (L : List Nat) (Γ : List Ent) (P : List Ent → Prop) : Prop := ∀ (S0 J : Ad) (σ : L2.St) (H : Hp) (v : V), Rel K T S0 J Γ σ H → XOk K T E X S0 J (Sx J Γ) H → Rep K (Sx S0 Γ) H v d → ∀ Q : L2.St → Hp → Prop,
  (∀ Γ' σ' H', P Γ' → Rel K T S0 J Γ' σ' H' → Go T J Γ H Γ' H' → (∀ k, k ∉ L → σ'[k]? = σ[k]?) → Q σ' H') → g v σ H Q
def SGs (K : Fg) (T : Tbl) (E : XK) (X : XP) (g : TGs) (ds : List Dt) (L : List Nat) (Γ : List Ent) (P : List Ent → Prop) : Prop := ∀ (S0 J : Ad) (σ : L2.St) (H : Hp) (vs : List V), Rel K T S0 J Γ σ H → XOk K T E X S0 J (Sx J Γ) H → RepL K (Sx S0 Γ) H vs ds → ∀ Q : L2.St → Hp → Prop,
  (∀ Γ' σ' H', P Γ' → Rel K T S0 J Γ' σ' H' → Go T J Γ H Γ' H' → (∀ k, k ∉ L → σ'[k]? = σ[k]?) → Q σ' H') → g vs σ H Q
/-- data go on being data as the def goes on -/
theorem Go.sub (g : Go T J Γ H Γ' H1) (js : ∀ a, J a → S0 a) : ∃ S', (∀ b, Sx S0 Γ' b → S' b) ∧ Sub (Sx S0 Γ) S' H ∧ Nx T S' H H1 := by
  refine ⟨fun a => Sx S0 Γ a ∨ a ∈ owned Γ', fun b z => ?_, ⟨fun b u hb nt nb z => ?_⟩, g.nx.mono fun b z => ?_⟩
  · rcases z with z | z
    · exact .inl (.inl z)
    · exact .inr z
  · rcases z with z | z
    · exact nb z
    · rcases g.own b z with q | q
      · exact nb (.inr q)
      · exact q u hb nt
  · rcases z with z | z
    · exact .inl (.inl (js b z))
    · exact .inl (.inr z)
theorem Go.rep (g : Go T J Γ H Γ' H1) (js : ∀ a, J a → S0 a) {v : V} {d : Dt} (h : Rep K (Sx S0 Γ) H v d) : Rep K (Sx S0 Γ') H1 v d := by
  obtain ⟨S', h1, h2, h3⟩ := g.sub js
  exact ((h.sub h2).nx h3).sub (.of h1)
theorem Go.repL (g : Go T J Γ H Γ' H1) (js : ∀ a, J a → S0 a) {v : List V} {d : List Dt} (h : RepL K (Sx S0 Γ) H v d) : RepL K (Sx S0 Γ') H1 v d := by
  obtain ⟨S', h1, h2, h3⟩ := g.sub js
  exact ((h.sub h2).nx h3).sub (.of h1)
theorem g_name {i : Nat} {d : Dt} {G : List Ent → Prop} {L : List Nat} (hi : i ∈ L) (p : G (Γ.set i (.val d))) : SG K T E X (gName i) d L Γ G := fun S0 J σ H v r xo rv Q q =>
  q _ _ H p (r.setV rv) .setV fun k hk => List.getElem?_set_ne fun z => hk (by rw [← z]; exact hi)
theorem gs_nil {G : List Ent → Prop} {L : List Nat} (p : G Γ) : SGs K T E X gNil [] L Γ G := fun S0 J σ H vs r xo rv Q q => by
  cases rv
  exact ⟨rfl, q _ _ H p r .refl fun _ _ => rfl⟩
theorem gs_cons {g : TG} {gs : TGs} {d : Dt} {ds : List Dt} {G : List Ent → Prop} {L : List Nat} (h : SG K T E X g d L Γ fun Γ' => SGs K T E X gs ds L Γ' G) : SGs K T E X (gCons g gs) (d :: ds) L Γ G := fun S0 J σ H vs r xo rv Q q => by
  cases rv with
  | @cons v _ vs _ rv rvs =>
    refine ⟨v, vs, rfl, h S0 J σ H v r xo rv _ fun Γ1 σ1 H1 a r1 g1 s1 => a S0 J σ1 H1 vs r1 (xo.go g1) (g1.repL r.js rvs) Q fun Γ2 σ2 H2 p r2 g2 s2 => q _ _ _ p r2 (g1.trans g2) fun k hk => by rw [s2 k hk, s1 k hk]⟩
theorem g_tup {gs : TGs} {ds : List Dt} {n : Nat} {G : List Ent → Prop} {L : List Nat} (hn : ds.length = n) (h : SGs K T E X gs ds L Γ G) : SG K T E X (gTup K n gs) (.tup ds) L Γ G := fun S0 J σ H v r xo rv Q q => by
  cases rv with
  | tup hs rl => exact ⟨_, _, rfl, hs.sq, by rw [rl.len]; exact hn, h S0 J σ H _ r xo rl Q q⟩
/-- xs[e] = .. -/
theorem g_sub {i : Nat} {p : Addr} {ds : List Dt} {d : Dt} {G : List Ent → Prop} {L : List Nat} (h : Γ[i]? = some (.own p ds))
    (he : EX K T E X te Γ fun y => ∃ k j, y = .int k ∧ ixN ds.length k = some j ∧ G (Γ.set i (.own p (ds.set j d)))) : SG K T E X (gSub (tVar i) te rSetL) d L Γ G := fun S0 J σ H v r xo rv Q q => by
  obtain ⟨es, xs, ep, rl⟩ := r.getO h
  refine ⟨.ref p, es, ?_⟩
  refine he S0 J σ H r xo.ex _ fun w y H2 ⟨k, j, ey, hj, a⟩ r2 n2 rw' => ?_
  subst ey
  cases rw'
  obtain ⟨_, xs2, ep2, rl2⟩ := r2.getO h
  exact ⟨p, xs2, k, j, rfl, rfl, ep2, by rw [rl2.len]; exact hj, q _ _ _ a (r2.chO h (RepL.set (xs := xs) (ds := ds) (rv.nx (r.jS n2)) rl2)) ((r.go n2).trans (.chO r2 h)) fun _ _ => rfl⟩
theorem s_asgG {g : TG} {L : List Nat} (h : EX K T E X te Γ fun d => SG K T E X g d L Γ N) : SW K T E X (tAsg te g) Γ N R B C := fun S0 J σ H r xo D n rt b c =>
  h S0 J σ H r xo.ex _ fun v d H2 a r2 n2 rv => a S0 J σ H2 v r2 (xo.nxs n2) rv _ fun Γ' σ' H3 p r3 g3 _ => n _ _ _ p r3 ((r.go n2).trans g3)
theorem s_par {i j : Nat} (h : EA K T E X tr Γ fun ds => ∃ d e, ds = [d, e] ∧ N ((Γ.set i (.val d)).set j (.val e))) : SW K T E X (tPar i j tr) Γ N R B C := fun S0 J σ H r xo D n rt b c =>
  h S0 J σ H r xo.ex _ fun vs ds H2 ⟨d, e, ed, a⟩ r2 n2 rv => by
    subst ed
    cases rv with
    | @cons v _ vs _ rv rvs =>
      cases rvs with
      | @cons w _ ws _ rw' rws =>
        cases rws
        have r3 := r2.setV (i := i) rv
        have g3 : Go T J Γ H2 (Γ.set i (.val d)) H2 := .setV
        exact ⟨v, w, rfl, n _ _ _ a (r3.setV (g3.rep r2.js rw')) (((r.go n2).trans g3).trans .setV)⟩
theorem At.sub {S S' : Ad} {o : Option V} {e : Ent} (h : ∀ b, S' b → S b) (q : At K J S H o e) : At K J S' H o e := by
  cases e with
  | emp => trivial
  | val d => obtain ⟨v, e1, e2⟩ := q; exact ⟨v, e1, e2.sub (.of h)⟩
  | own p ds => obtain ⟨e1, xs, e2, e3⟩ := q; exact ⟨e1, xs, e2, e3.sub (.of h)⟩
  | jar j => exact q
/-- p came after all that is told of: from now on it is not met -/
theorem Rel.avoid {p : Addr} (r : Rel K T S0 J Γ σ H) (r2 : Rel K T S0 J Γ σ H2) (hp : Fre H p) (hp2 : ¬ Fre H2 p) (n : Nx T J H H2) : Rel K T (Rj S0 p) J Γ σ H2 := by
  refine ⟨fun a h => .inl (r.js a h), r2.jr, fun a h => ?_, r2.tb, r2.nd, fun q hq z => ?_, r2.len, fun i o e h1 h2 => (r.notNew hp n i o e h1 h2).sub fun b z => ?_⟩
  · rcases h with h | h
    · exact r2.wf a h
    · rw [h]; exact hp2
  · rcases z with z | z
    · exact r.os q hq z
    · exact r.newNot hp (by rw [← z]; exact hq)
  · rcases z with (z | z) | z
    · exact .inl (.inl z)
    · exact .inr z
    · exact .inl (.inr z)
theorem Rel.less {S1 : Ad} (r : Rel K T S1 J Γ σ H) (h : ∀ a, S0 a → S1 a) (js : ∀ a, J a → S0 a) : Rel K T S0 J Γ σ H :=
  ⟨js, r.jr, fun a z => r.wf a (h a z), r.tb, r.nd, fun p hp z => r.os p hp (h p z), r.len, fun i o e h1 h2 => (r.at_ i o e h1 h2).sub fun b z => z.imp (h b) id⟩
theorem XOk.avoid {p : Addr} {M : Ad} (x : XOk K T E X S0 J M H) : XOk K T E X (Rj S0 p) J M H := fun C fs xs dx H2 h1 n h2 h3 h4 => x C fs xs dx H2 h1 n h2 h3 (h4.sub (.of Rj.sub))
/-- two new lists -/
theorem s_parO {i j : Nat} (h : EL K T E X ta Γ fun ds => EL K T E X tb Γ fun es => ∀ p q, p ∉ owned Γ → q ∉ owned Γ → p ≠ q → N ((Γ.set i (.own p ds)).set j (.own q es))) : SW K T E X (tPar i j (tCons ta (tCons tb tNil))) Γ N R B C := fun S0 J σ H r xo D n rt b c =>
  h S0 J σ H r xo.ex _ fun p xs ds H2 h2 r2 n2 f2 e2 l2 => h2 (Rj S0 p) J σ H2 (r.avoid r2 f2 (fun z => z _ e2 noT_lst) n2) (xo.ex.nx n2).avoid _ fun q ys es H3 a r3 n3 f3 e3 l3 => by
    have hqp : p ≠ q := fun z => by rw [z] at e2; exact f3 _ e2 noT_lst
    have s1 : S0 p → False := fun z => r.wf p z f2
    have e2' : H3 p = some (.lst xs) := n3.le _ _ e2 noT_lst fun z => s1 (r.js _ z)
    have l2' : RepL K (Rj (Sx S0 Γ) p) H3 xs ds := l2.nx (n3.mono fun b z => .inl (.inl (r.js b z)))
    have r2' := r2.newO (i := i) s1 (r.newNot f2) e2 l2 (r.notNew f2 n2)
    have r4 := (r3.less (fun a z => .inl z) r.js).newO (i := i) s1 (r.newNot f2) e2' l2' (r.notNew f2 (n2.trans n3))
    have hq1 : q ∉ owned (Γ.set i (.own p ds)) := r2'.newNot f3
    have r5 := r4.newO (i := j) (fun z => r2.wf q z f3) hq1 e3 (l3.sub (.of fun b z => by
      rcases z with (z | z) | z
      · exact .inl (.inl (.inl z))
      · rcases owned_set Γ b z with q | q
        · exact .inl (.inr q)
        · exact .inl (.inl (.inr (List.mem_singleton.mp q)))
      · exact .inr z)) (r2'.notNew f3 n3)
    exact ⟨_, _, rfl, n _ _ _ (a p q (r.newNot f2) (r2.newNot f3) hqp) r5 ((Go.newO n2 f2).trans (.newO n3 f3))⟩
end
end Lp

set_option Elab.async false
set_option linter.all false
set_option maxRecDepth 100000
set_option maxHeartbeats 4000000
/-! L10: what is walked; for; comprehensions, over data. Own work. -/
namespace Lp
open PySem PySem.Spec PyProof.Rows L2 LamX
/-- from H1 on, while what S tells stands, the walk goes over what stands for ds -/
def WkD (K : Fg) (T : Tbl) (S : Ad) (H1 : Hp) (I : It) (ds : List Dt) : Prop := ∃ (G : Hp → Prop) (Y : Nat → Hp → V → Hp → Prop), Walk I ds.length G Y ∧ (∀ H, Nx T S H1 H → G H) ∧
  ∀ i d H x H', ds[i]? = some d → Nx T S H1 H → Y i H x H' → Nx T (fun _ => False) H H' ∧ ∀ S' : Ad, Sub S S' H1 → (∀ b, S' b → ¬ Fre H b) → Nx T S' H1 H → Rep K S' H' x d
def EI (K : Fg) (T : Tbl) (E : XK) (X : XP) (ti : TI) (Γ : List Ent) (P : List Dt → Prop) : Prop := ∀ (S0 J : Ad) (σ : L2.St) (H : Hp), Rel K T S0 J Γ σ H → XOk K T E X S0 J J H → ∀ R : It → Hp → Prop,
  (∀ I ds H1, P ds → Rel K T S0 J Γ σ H1 → Nx T J H H1 → WkD K T (Sx S0 Γ) H1 I ds → R I H1) → ti σ H R
/-- a target that is but names -/
def SP (K : Fg) (T : Tbl) (E : XK) (X : XP) (g : TG) (d : Dt) (L : List Nat) (Γ : List Ent) (P : List Ent → Prop) : Prop := ∀ (S0 J : Ad) (σ : L2.St) (H : Hp) (v : V), Rel K T S0 J Γ σ H → XOk K T E X S0 J J H → Rep K (Sx S0 Γ) H v d → ∀ Q : L2.St → Hp → Prop,
  (∀ Γ' σ', P Γ' → Rel K T S0 J Γ' σ' H → owned Γ' = owned Γ → (∀ k, k ∉ L → σ'[k]? = σ[k]?) → σ'.length = σ.length → Q σ' H) → g v σ H Q
def SPs (K : Fg) (T : Tbl) (E : XK) (X : XP) (g : TGs) (ds : List Dt) (L : List Nat) (Γ : List Ent) (P : List Ent → Prop) : Prop := ∀ (S0 J : Ad) (σ : L2.St) (H : Hp) (vs : List V), Rel K T S0 J Γ σ H → XOk K T E X S0 J J H → RepL K (Sx S0 Γ) H vs ds → ∀ Q : L2.St → Hp → Prop,
  (∀ Γ' σ', P Γ' → Rel K T S0 J Γ' σ' H → owned Γ' = owned Γ → (∀ k, k ∉ L → σ'[k]? = σ[k]?) → σ'.length = σ.length → Q σ' H) → g vs σ H Q
def noOwn (Γ : List Ent) (i : Nat) : Bool := match Γ[i]? with
  | some (.own _ _) => false
  | _ => true
/-- the slots of a comprehension's own names -/
def wipeG (Γ : List Ent) : List Nat → List Ent
  | [] => Γ
  | v :: vs => (wipeG Γ vs).set v .emp
section
variable {K : Fg} {T : Tbl} {E : XK} {X : XP} {S S' S0 J O O' : Ad} {H H1 H2 : Hp} {Γ Γ1 Γ' : List Ent} {σ σ' : L2.St}
variable {tb' : TS} {N N' : List Ent → Prop} {R : Rt → List Ent → Prop} {B C : List Ent → Prop} {ts tu : TS} {te ta tb : TE} {tt : TT} {tr : TA} {P : Dt → Prop} {A : List Dt → Prop} {ti : TI}
theorem noOwn_own {i : Nat} (h : noOwn Γ i = true) : ∀ e, Γ[i]? = some e → ownA e = [] := fun e he => by
  unfold noOwn at h
  rw [he] at h
  cases e with
  | own p ds => cases h
  | emp => rfl
  | val d => rfl
  | jar j => rfl
theorem owned_put {i : Nat} {e' : Ent} (h : noOwn Γ i = true) (he : ownA e' = []) : owned (Γ.set i e') = owned Γ := by
  cases hi : Γ[i]? with
  | none =>
    rw [List.set_eq_of_length_le (List.getElem?_eq_none_iff.mp hi)]
  | some e => exact owned_same hi (by rw [he, noOwn_own h e hi])
theorem Rel.live (r : Rel K T S0 J Γ σ H) : ∀ b, Sx S0 Γ b → ¬ Fre H b := fun b z hb => r.fresh hb z
theorem p_name {i : Nat} {d : Dt} {G : List Ent → Prop} {L : List Nat} (hi : i ∈ L) (hn : noOwn Γ i = true) (p : G (Γ.set i (.val d))) : SP K T E X (gName i) d L Γ G := fun S0 J σ H v r xo rv Q q =>
  q _ _ p (r.setV rv) (owned_put hn rfl) (fun k hk => List.getElem?_set_ne fun z => hk (by rw [← z]; exact hi)) (List.length_set ..)
theorem ps_nil {G : List Ent → Prop} {L : List Nat} (p : G Γ) : SPs K T E X gNil [] L Γ G := fun S0 J σ H vs r xo rv Q q => by
  cases rv
  exact ⟨rfl, q _ _ p r rfl (fun _ _ => rfl) rfl⟩
theorem Sx.eq (h : owned Γ' = owned Γ) : Sx S0 Γ' = Sx S0 Γ := by unfold Sx; rw [h]
theorem ps_cons {g : TG} {gs : TGs} {d : Dt} {ds : List Dt} {G : List Ent → Prop} {L : List Nat} (h : SP K T E X g d L Γ fun Γ' => SPs K T E X gs ds L Γ' G) : SPs K T E X (gCons g gs) (d :: ds) L Γ G := fun S0 J σ H vs r xo rv Q q => by
  cases rv with
  | @cons v _ vs _ rv rvs =>
    refine ⟨v, vs, rfl, h S0 J σ H v r xo rv _ fun Γ1 σ1 a r1 g1 s1 l1 => a S0 J σ1 H vs r1 xo (by rw [Sx.eq g1]; exact rvs) Q fun Γ2 σ2 p r2 g2 s2 l2 => q _ _ p r2 (g2.trans g1) (fun k hk => by rw [s2 k hk, s1 k hk]) (l2.trans l1)⟩
theorem p_tup {gs : TGs} {ds : List Dt} {n : Nat} {G : List Ent → Prop} {L : List Nat} (hn : ds.length = n) (h : SPs K T E X gs ds L Γ G) : SP K T E X (gTup K n gs) (.tup ds) L Γ G := fun S0 J σ H v r xo rv Q q => by
  cases rv with
  | tup hs rl => exact ⟨_, _, rfl, hs.sq, by rw [rl.len]; exact hn, h S0 J σ H _ r xo rl Q q⟩
theorem g_p {g : TG} {d : Dt} {L : List Nat} {G : List Ent → Prop} (h : SP K T E X g d L Γ G) : SG K T E X g d L Γ G := fun S0 J σ H v r xo rv Q q =>
  h S0 J σ H v r xo.ex rv Q fun Γ' σ' p r1 g1 s1 _ => q Γ' σ' H p r1 ⟨.refl, fun b hb => .inl (by rw [← g1]; exact hb)⟩ s1
/-! ### walks -/
theorem wk_seq {a : Addr} {b : Bool} {ds : List Dt} (h : Rep K S H1 (.ref a) (sqD b ds)) : WkD K T S H1 (if b then Itl K a else Itt K a) ds := by
  cases b with
  | true =>
    cases h with
    | @lst a xs _ h r =>
      refine ⟨fun H => SqL K H a xs, YAt xs, by rw [← r.len]; exact walk_list, fun H n => (n.sqL h).sq, fun i d H x H' hd n y => ?_⟩
      obtain ⟨e, hx⟩ := y
      rw [e]
      refine ⟨.refl, fun S' sb lv n' => ?_⟩
      obtain ⟨z, hz, rz⟩ := r.get hd
      rw [hz] at hx
      cases hx
      exact (rz.sub sb).nx n'
  | false =>
    cases h with
    | @tup a xs _ h r =>
      refine ⟨fun H => SqT K H a xs, YAt xs, by rw [← r.len]; exact walk_tup, fun H n => (n.sqT h).sq, fun i d H x H' hd n y => ?_⟩
      obtain ⟨e, hx⟩ := y
      rw [e]
      refine ⟨.refl, fun S' sb lv n' => ?_⟩
      obtain ⟨z, hz, rz⟩ := r.get hd
      rw [hz] at hx
      cases hx
      exact (rz.sub sb).nx n'
def signs (z : Str) : List Dt := z.cps.toList.map fun c => .str ⟨#[c]⟩
theorem signs_len {z : Str} : (signs z).length = z.cps.size := by simp [signs]
theorem wk_str {z : Str} : WkD K T S H1 (Its z) (signs z) := by
  refine ⟨fun _ => True, _, by rw [signs_len]; exact walk_str, fun _ _ => trivial, fun i d H x H' hd n y => ?_⟩
  obtain ⟨e, c, hc, ex⟩ := y
  rw [e, ex]
  refine ⟨.refl, fun S' sb lv n' => ?_⟩
  have : d = .str ⟨#[c]⟩ := by
    unfold signs at hd
    rw [List.getElem?_map] at hd
    rw [show z.cps.toList[i]? = some c from by simpa using hc] at hd
    exact (Option.some.inj hd).symm
  rw [this]
  exact .str _
def rgD (lo : Int) (n : Nat) : List Dt := (List.range n).map fun i => .int (lo + (i : Nat))
theorem rgD_len {lo : Int} {n : Nat} : (rgD lo n).length = n := by simp [rgD]
theorem rgD_get {lo : Int} {n i : Nat} {d : Dt} (h : (rgD lo n)[i]? = some d) : i < n ∧ d = .int (lo + (i : Nat)) := by
  have hl := (List.getElem?_eq_some_iff.mp h).1
  rw [rgD_len] at hl
  unfold rgD at h
  rw [List.getElem?_map, List.getElem?_range hl] at h
  exact ⟨hl, (Option.some.inj h).symm⟩
theorem wk_rng {lo : Int} {n : Nat} : WkD K T S H1 (Itr lo n) (rgD lo n) := by
  refine ⟨fun _ => True, _, by rw [rgD_len]; exact walk_range, fun _ _ => trivial, fun i d H x H' hd n y => ?_⟩
  obtain ⟨e, ex⟩ := y
  rw [e, ex, (rgD_get hd).2]
  exact ⟨.refl, fun S' sb lv n' => .int _⟩
theorem walk_enumT {a : Addr} {xs : List V} : Walk (IteT K a) xs.length (fun H => SqT K H a xs) (YPair (fun i => some (.int (i : Nat))) (fun i => xs[i]?)) := by
  refine ⟨fun i _ hi q => ⟨xs, xs[i], q, by simp [hi]⟩, fun _ q => ⟨xs, q, Nat.le_refl _⟩, fun i H v H' _ q y => ?_⟩
  obtain ⟨T, x, h1, h2, h3, h4⟩ := y
  exact ⟨T, .int (i : Nat), x, h1, h2, h3, rfl, h4 xs q⟩
/-- the pairs that enumerate gives -/
def enD (ds : List Dt) : List Dt := ds.zipIdx.map fun p => .tup [.int (p.2 : Nat), p.1]
theorem enD_len {ds : List Dt} : (enD ds).length = ds.length := by simp [enD]
theorem enD_get {ds : List Dt} {i : Nat} {d : Dt} (h : (enD ds)[i]? = some d) : ∃ x, ds[i]? = some x ∧ d = .tup [.int (i : Nat), x] := by
  unfold enD at h
  rw [List.getElem?_map, List.getElem?_zipIdx] at h
  cases hx : ds[i]? with
  | none => rw [hx] at h; cases h
  | some x =>
    rw [hx] at h
    refine ⟨x, rfl, ?_⟩
    have e := (Option.some.inj h).symm
    simpa using e
theorem pair_rep {Tp : Addr} {y : V} {i : Nat} {d : Dt} (hT : H Tp = none) (hs : ¬ S Tp) (r : Rep K S H y d) : Rep K S (upd H Tp (.tup [.int (i : Nat), y])) (.ref Tp) (.tup [.int (i : Nat), d]) :=
  .tup (.inl ⟨hs, .inl upd_same⟩) (.cons (.int _) (.cons (r.nx (T := []) (.new hT noT_tup)) .nil))
theorem wk_enum {a : Addr} {b : Bool} {ds : List Dt} (h : Rep K S H1 (.ref a) (sqD b ds)) : WkD K T S H1 (if b then Ite K a else IteT K a) (enD ds) := by
  have key : ∀ {xs : List V} {i : Nat} {d : Dt} {H : Hp} {x : V} {H' : Hp}, RepL K S H1 xs ds → (enD ds)[i]? = some d → YPair (fun i => some (.int (i : Nat))) (fun i => xs[i]?) i H x H' →
      Nx T (fun _ => False) H H' ∧ ∀ S' : Ad, Sub S S' H1 → (∀ b, S' b → ¬ Fre H b) → Nx T S' H1 H → Rep K S' H' x d := fun {xs i d H x H'} r hd y => by
    obtain ⟨Tp, p, y, ex, hT, e, e1, e2⟩ := y
    obtain ⟨u, hu, ed⟩ := enD_get hd
    obtain ⟨z, hz, rz⟩ := r.get hu
    have e2' : xs[i]? = some y := e2
    rw [hz] at e2'
    cases e2'
    cases (show some (V.int (i : Nat)) = some p from e1)
    subst ex e ed
    exact ⟨.new hT noT_tup, fun S' sb lv n' => pair_rep hT (fun z => lv _ z (.of hT)) ((rz.sub sb).nx n')⟩
  cases b with
  | true =>
    cases h with
    | @lst a xs _ h r => exact ⟨fun H => SqL K H a xs, _, by rw [enD_len, ← r.len]; exact walk_enum, fun H n => (n.sqL h).sq, fun i d H x H' hd n y => key r hd y⟩
  | false =>
    cases h with
    | @tup a xs _ h r => exact ⟨fun H => SqT K H a xs, _, by rw [enD_len, ← r.len]; exact walk_enumT, fun H n => (n.sqT h).sq, fun i d H x H' hd n y => key r hd y⟩
theorem i_u (h : EX K T E X te Γ fun d => (∃ b ds, d = sqD b ds ∧ A ds) ∨ ∃ z, d = .str z ∧ A (signs z)) : EI K T E X (iU K te) Γ A := fun S0 J σ H r xo Q q =>
  h S0 J σ H r xo _ fun v d H2 a r2 n2 rv => by
    rcases a with ⟨b, ds, rfl, a⟩ | ⟨z, rfl, a⟩
    · have w := fun {ad : Addr} (e : v = .ref ad) => wk_seq (T := T) (by rw [← e]; exact rv)
      cases b with
      | true =>
        cases id rv with
        | @lst ad xs _ hs rl => exact .inl ⟨ad, rfl, .inl ⟨⟨xs, hs.sq⟩, q _ ds H2 a r2 n2 (w rfl)⟩⟩
      | false =>
        cases id rv with
        | @tup ad xs _ hs rl => exact .inl ⟨ad, rfl, .inr ⟨⟨xs, hs.sq⟩, q _ ds H2 a r2 n2 (w rfl)⟩⟩
    · cases rv
      exact .inr ⟨z, rfl, q _ _ H2 a r2 n2 wk_str⟩
theorem i_enum (h : EX K T E X te Γ fun d => ∃ b ds, d = sqD b ds ∧ A (enD ds)) : EI K T E X (iEnumU K (tCons te tNil)) Γ A := fun S0 J σ H r xo Q q =>
  h S0 J σ H r xo _ fun v d H2 ⟨b, ds, ed, a⟩ r2 n2 rv => by
    subst ed
    have w := fun {ad : Addr} (e : v = .ref ad) => wk_enum (T := T) (by rw [← e]; exact rv)
    cases b with
    | true =>
      cases id rv with
      | @lst ad xs _ hs rl => exact ⟨ad, xs, rfl, .inl ⟨hs.sq, q _ _ H2 a r2 n2 (w rfl)⟩⟩
    | false =>
      cases id rv with
      | @tup ad xs _ hs rl => exact ⟨ad, xs, rfl, .inr ⟨hs.sq, q _ _ H2 a r2 n2 (w rfl)⟩⟩
theorem i_rng1 (h : EX K T E X te Γ fun d => ∃ j : Int, d = .int j ∧ -(2 ^ 62) ≤ j ∧ j < 2 ^ 62 ∧ A (rgD 0 j.toNat)) : EI K T E X (iRng1 (tCons te tNil)) Γ A := fun S0 J σ H r xo Q q =>
  h S0 J σ H r xo _ fun v d H2 ⟨j, ed, h1, h2, a⟩ r2 n2 rv => by
    subst ed
    cases rv
    exact ⟨j, rfl, h1, h2, q _ _ H2 a r2 n2 wk_rng⟩
theorem i_rng2 (h : EX K T E X ta Γ fun c => EX K T E X tb Γ fun d => ∃ i j : Int, c = .int i ∧ d = .int j ∧ (-(2 ^ 62) ≤ i ∧ i < 2 ^ 62 ∧ -(2 ^ 62) ≤ j ∧ j < 2 ^ 62) ∧ A (rgD i (j - i).toNat)) : EI K T E X (iRng2 (tCons ta (tCons tb tNil))) Γ A := fun S0 J σ H r xo Q q =>
  h S0 J σ H r xo _ fun v d H2 h2 r2 n2 rv => h2 S0 J σ H2 r2 (xo.nx n2) _ fun w e H3 ⟨i, j, e1, e2, hb, a⟩ r3 n3 rw' => by
    subst e1 e2
    cases rv; cases rw'
    exact ⟨i, j, rfl, hb, q _ _ H3 a r3 (n2.trans n3) wk_rng⟩
/-! ### for -/
theorem Go.sub' (g : Go T J Γ H Γ' H1) (r : Rel K T S0 J Γ σ H) (r' : Rel K T S0 J Γ' σ' H1) : ∃ S', (∀ b, Sx S0 Γ' b → S' b) ∧ Sub (Sx S0 Γ) S' H ∧ Nx T S' H H1 ∧ ∀ b, S' b → ¬ Fre H1 b := by
  refine ⟨fun a => Sx S0 Γ a ∨ a ∈ owned Γ', fun b z => ?_, ⟨fun b u hb nt nb z => ?_⟩, g.nx.mono fun b z => ?_, fun b z hb => ?_⟩
  · rcases z with z | z
    · exact .inl (.inl z)
    · exact .inr z
  · rcases z with z | z
    · exact nb z
    · rcases g.own b z with q | q
      · exact nb (.inr q)
      · exact q u hb nt
  · rcases z with z | z
    · exact .inl (.inl (r.js b z))
    · exact .inl (.inr z)
  · rcases z with z | z
    · exact r.live b z (g.nx.dom b hb)
    · exact r'.live b (.inr z) hb
theorem s_for {g : TG} (h : EI K T E X ti Γ fun ds => ∃ (Iv : Nat → List Ent → Prop) (L : List Nat), Iv 0 Γ ∧
      (∀ i d Γ', ds[i]? = some d → Iv i Γ' → SG K T E X g d L Γ' fun Γ2 => SW K T E X tb' Γ2 (Iv (i + 1)) R N (Iv (i + 1))) ∧ ∀ Γ', Iv ds.length Γ' → N Γ') : SW K T E X (tFor ti g tb') Γ N R B C := fun S0 J σ H r xo D n rt b c =>
  h S0 J σ H r xo.ex _ fun I ds H1 ⟨Iv, L, h0, hs, hd⟩ r1 n1 ⟨G, Y, w, hG, hY⟩ => by
    have g0 := r.go n1
    have x1 := xo.nxs n1
    refine for_it w (fun i σ2 H2 => ∃ Γ2, Iv i Γ2 ∧ Rel K T S0 J Γ2 σ2 H2 ∧ Go T J Γ H1 Γ2 H2) ⟨Γ, h0, r1, .refl⟩ (fun i σ2 H2 _ ⟨Γ2, _, r2, g2⟩ => hG H2 (g2.nx.mono fun b z => z.imp (r.js b) id)) (fun i x σ2 H2 H3 hi ⟨Γ2, iv, r2, g2⟩ y => ?_) fun σ2 H2 ⟨Γ2, iv, r2, g2⟩ => n Γ2 σ2 H2 (hd Γ2 iv) r2 (g0.trans g2)
    have hdd : ds[i]? = some ds[i] := List.getElem?_eq_getElem hi
    obtain ⟨n3, hx⟩ := hY i ds[i] H2 x H3 hdd (g2.nx.mono fun b z => z.imp (r.js b) id) y
    obtain ⟨S', q1, q2, q3, q4⟩ := g2.sub' r1 r2
    have rx := (hx S' q2 q4 q3).sub (.of q1)
    have r3 := r2.nx n3
    have g3 : Go T J Γ H1 Γ2 H3 := g2.trans (r2.go (n3.mono fun _ z => z.elim))
    refine hs i ds[i] Γ2 hdd iv S0 J σ2 H3 x r3 (x1.go g3) rx _ fun Γ4 σ4 H4 p r4 g4 _ => ?_
    have g4' := g3.trans g4
    exact p S0 J σ4 H4 r4 (x1.go g4') _ (fun Γ5 σ5 H5 p5 r5 g5 => ⟨Γ5, p5, r5, g4'.trans g5⟩) (fun rr v Γ5 σ5 H5 p5 r5 g5 z => rt rr v Γ5 σ5 H5 p5 r5 (g0.trans (g4'.trans g5)) (z.mono (Og.go (g0.trans g4'))))
      (fun Γ5 σ5 H5 p5 r5 g5 => n Γ5 σ5 H5 p5 r5 (g0.trans (g4'.trans g5))) (fun Γ5 σ5 H5 p5 r5 g5 => ⟨Γ5, p5, r5, g4'.trans g5⟩)
/-! ### comprehensions -/
theorem wipeG_len (vs : List Nat) : (wipeG Γ vs).length = Γ.length := by
  induction vs with
  | nil => rfl
  | cons v vs ih => unfold wipeG; rw [List.length_set]; exact ih
theorem wipe_at (vs : List Nat) (k : Nat) : (wipe σ vs)[k]? = if k ∈ vs ∧ k < σ.length then some none else σ[k]? := by
  induction vs with
  | nil => simp [wipe]
  | cons v vs ih =>
    unfold wipe
    by_cases hk : k = v
    · subst hk
      by_cases hl : k < σ.length
      · rw [List.getElem?_set_self (by rw [wipe_length]; exact hl)]; simp [hl]
      · rw [List.getElem?_eq_none (by rw [List.length_set, wipe_length]; omega), if_neg (by simp [hl]), List.getElem?_eq_none (by omega)]
    · rw [List.getElem?_set_ne (Ne.symm hk), ih]
      simp [hk]
theorem wipe_agree {vs : List Nat} {σ2 : L2.St} (h : ∀ k, k ∉ vs → σ2[k]? = (wipe σ vs)[k]?) (hl : σ2.length = (wipe σ vs).length) : wipe σ2 vs = wipe σ vs := by
  apply List.ext_getElem?
  intro k
  rw [wipe_length] at hl
  rw [wipe_at, wipe_at, hl]
  by_cases hk : k ∈ vs
  · by_cases hn : k < σ.length
    · simp [hk, hn]
    · rw [if_neg (by simp [hn]), if_neg (by simp [hn]), List.getElem?_eq_none (by omega), List.getElem?_eq_none (by omega)]
  · rw [if_neg (by simp [hk]), if_neg (by simp [hk]), h k hk, wipe_at, if_neg (by simp [hk])]
theorem noOwn_set {i k : Nat} (h : noOwn Γ k = true) : noOwn (Γ.set i .emp) k = true := by
  unfold noOwn at *
  by_cases hi : i = k
  · subst hi
    by_cases hl : i < Γ.length
    · rw [List.getElem?_set_self hl]
    · rw [List.getElem?_eq_none (by rw [List.length_set]; omega)]
  · rw [List.getElem?_set_ne hi]; exact h
theorem wipeG_no {vs : List Nat} (h : vs.all (noOwn Γ) = true) : ∀ k, noOwn Γ k = true → noOwn (wipeG Γ vs) k = true := by
  induction vs with
  | nil => exact fun k h => h
  | cons v vs ih =>
    rw [List.all_cons, Bool.and_eq_true] at h
    exact fun k hk => noOwn_set (ih h.2 k hk)
theorem wipeG_owned {vs : List Nat} (h : vs.all (noOwn Γ) = true) : owned (wipeG Γ vs) = owned Γ := by
  induction vs with
  | nil => rfl
  | cons v vs ih =>
    rw [List.all_cons, Bool.and_eq_true] at h
    unfold wipeG
    rw [owned_put (wipeG_no h.2 v h.1) rfl, ih h.2]
theorem Rel.setE {i : Nat} (r : Rel K T S0 J Γ σ H) (hn : noOwn Γ i = true) : Rel K T S0 J (Γ.set i .emp) (σ.set i none) H := by
  have e := owned_put (e' := .emp) hn rfl
  refine ⟨r.js, r.jr, r.wf, r.tb, by rw [e]; exact r.nd, by rw [e]; exact r.os, by rw [List.length_set, List.length_set]; exact r.len, fun k o e' h1 h2 => ?_⟩
  rw [Sx.eq e]
  by_cases hk : k = i
  · subst hk
    have hl := (List.getElem?_eq_some_iff.mp h2).1
    rw [List.length_set] at hl
    rw [List.getElem?_set_self hl] at h2
    cases h2
    trivial
  · rw [List.getElem?_set_ne (Ne.symm hk)] at h1 h2
    exact r.at_ k o e' h1 h2
theorem Rel.wipe {vs : List Nat} (r : Rel K T S0 J Γ σ H) (h : vs.all (noOwn Γ) = true) : Rel K T S0 J (wipeG Γ vs) (wipe σ vs) H := by
  induction vs with
  | nil => exact r
  | cons v vs ih =>
    rw [List.all_cons, Bool.and_eq_true] at h
    exact (ih h.2).setE (wipeG_no h.2 v h.1)
/-- a change at a place that no data meet -/
theorem Rel.nxS {p : Addr} (r : Rel K T S0 J Γ σ H) (hp : S0 p) (hj : ¬ J p) (n : Nx T (fun a => a = p) H H1) : Rel K T S0 J Γ σ H1 := by
  refine ⟨r.js, fun a h => (r.jr a h).nx n fun z => hj (by rw [← z]; exact h), fun a h z => r.wf a h (n.dom a z), n.tab r.tb, r.nd, r.os, r.len, fun i o e h1 h2 => ?_⟩
  have q := r.at_ i o e h1 h2
  have m : Nx T (Sx S0 Γ) H H1 := n.mono fun b z => by rw [z]; exact .inl hp
  cases e with
  | emp => trivial
  | val d => obtain ⟨v, e1, e2⟩ := q; exact ⟨v, e1, e2.nx m⟩
  | own b ds =>
    obtain ⟨e1, xs, e2, e3⟩ := q
    exact ⟨e1, xs, n.le _ _ e2 noT_lst (fun z => r.os b (mem_owned h2) (by rw [z]; exact hp)), e3.nx m⟩
  | jar k => exact q
theorem l_lc {g : TG} {vs : List Nat} (hw : vs.all (noOwn Γ) = true) (h : EI K T E X ti Γ fun ds => ds.length ≤ sizeLine ∧ ∃ Iv : Nat → List Dt → Prop, Iv 0 [] ∧
      (∀ i d acc, ds[i]? = some d → acc.length ≤ i → Iv i acc → SP K T E X g d vs (wipeG Γ vs) fun Γ2 => ET K T E X tt Γ2 fun b => (b = true → EX K T E X te Γ2 fun y => Iv (i + 1) (acc ++ [y])) ∧ (b = false → Iv (i + 1) acc)) ∧
      ∀ acc, acc.length ≤ ds.length → Iv ds.length acc → A acc) : EL K T E X (tLc ti g tt te vs) Γ A := fun S0 J σ H r xo Q q =>
  h S0 J σ H r xo _ fun I ds H1 ⟨hz, Iv, h0, hs, hd⟩ r1 n1 ⟨G, Y, w, hG, hY⟩ D hD => by
    have x1 := xo.nx n1
    have hDJ : ¬ J D := fun z => r1.wf D (r1.js D z) (.of hD)
    have nD : Nx T J H1 (upd H1 D (.lst [])) := .new hD noT_lst
    have rD : Rel K T S0 J Γ σ (upd H1 D (.lst [])) := r1.nx (.new hD noT_lst)
    have r0 : Rel K T (Rj S0 D) J Γ σ (upd H1 D (.lst [])) := r1.avoid rD (.of hD) (fun z => z _ upd_same noT_lst) nD
    refine lc_it w (fun i Hc => ∃ acc xs, Hc D = some (.lst xs) ∧ RepL K (Rj (Sx S0 Γ) D) Hc xs acc ∧ acc.length ≤ i ∧ Iv i acc ∧ Rel K T (Rj S0 D) J Γ σ Hc ∧ Nx T J H1 Hc) ⟨[], [], upd_same, .nil, Nat.le_refl _, h0, r0, nD⟩
      (fun i Hc _ ⟨acc, xs, _, _, _, _, _, nn⟩ => hG Hc (nn.mono fun b z => .inl (r.js b z))) (fun i x Hc H' hi ⟨acc, xs, eD, rl, hl, iv, rc, nn⟩ y => ?_) fun Hc ⟨acc, xs, eD, rl, hl, iv, rc, nn⟩ => ?_
    · have hdd : ds[i]? = some ds[i] := List.getElem?_eq_getElem hi
      obtain ⟨n3, hx⟩ := hY i ds[i] Hc x H' hdd (nn.mono fun b z => .inl (r.js b z)) y
      have rw0 : Rel K T (Rj S0 D) J (wipeG Γ vs) (wipe σ vs) Hc := rc.wipe hw
      have sxe : ∀ b, Sx (Rj S0 D) (wipeG Γ vs) b → Rj (Sx S0 Γ) D b := fun b z => by
        rw [Sx.eq (wipeG_owned hw)] at z
        rcases z with (z | z) | z
        · exact .inl (.inl z)
        · exact .inr z
        · exact .inl (.inr z)
      have rx := hx (Sx (Rj S0 D) (wipeG Γ vs)) ⟨fun b u hb nt nb z => by
        rcases sxe b z with z | z
        · exact nb z
        · rw [z, hD] at hb; cases hb⟩ (rw0.live) (nn.mono fun b z => .inl (.inl (r.js b z)))
      have r3 := rw0.nx n3
      have n3' : Nx T J Hc H' := n3.mono fun _ z => z.elim
      have xw : ∀ {H'' : Hp}, Nx T J H1 H'' → XOk K T E X (Rj S0 D) J J H'' := fun n' => (x1.nx n').avoid
      refine hs i ds[i] acc hdd hl iv (Rj S0 D) J (wipe σ vs) H' x r3 (xw (nn.trans n3')) rx _ fun Γ2 σ2 a r4 o4 s4 l4 => ⟨wipe_agree s4 l4, ?_⟩
      have x4 : ∀ {H'' : Hp}, Nx T J H1 H'' → XOk K T E X (Rj S0 D) J J H'' := fun n' => xw n'
      have keep : ∀ {Hz : Hp}, Nx T J Hc Hz → Hz D = some (.lst xs) ∧ RepL K (Rj (Sx S0 Γ) D) Hz xs acc ∧ Rel K T (Rj S0 D) J (wipeG Γ vs) (wipe σ vs) Hz → True := fun _ _ => trivial
      refine a (Rj S0 D) J σ2 H' r4 (x4 (nn.trans n3')) _ fun b H5 hb r5 n5 => ?_
      have n35 : Nx T J Hc H5 := n3'.trans n5
      have back : ∀ {Hz : Hp}, Nx T J Hc Hz → (∀ a, J a → JarOk Hz a) → Tabs T Hz → Rel K T (Rj S0 D) J Γ σ Hz := fun {Hz} nz jz tz => by
        refine ⟨rc.js, jz, fun a h z => rc.wf a h (nz.dom a z), tz, rc.nd, rc.os, rc.len, fun k o e h1 h2 => ?_⟩
        have q := rc.at_ k o e h1 h2
        have m : Nx T (Sx (Rj S0 D) Γ) Hc Hz := nz.mono fun b z => .inl (rc.js b z)
        cases e with
        | emp => trivial
        | val d => obtain ⟨v, e1, e2⟩ := q; exact ⟨v, e1, e2.nx m⟩
        | own b ds => obtain ⟨e1, xs, e2, e3⟩ := q; exact ⟨e1, xs, nz.le _ _ e2 noT_lst (fun z => rc.os b (mem_owned h2) (rc.js _ z)), e3.nx m⟩
        | jar k => exact q
      cases b with
      | false =>
        rw [if_neg (by simp)]
        exact ⟨acc, xs, n35.le _ _ eD noT_lst hDJ, rl.nx (n35.mono fun b z => .inl (.inl (r.js b z))), Nat.le_succ_of_le hl, hb.2 rfl, back n35 r5.jr r5.tb, nn.trans n35⟩
      | true =>
        rw [if_pos rfl]
        refine hb.1 rfl (Rj S0 D) J σ2 H5 r5 (x4 (nn.trans n35)) _ fun v d H6 p6 r6 n6 rv => ?_
        have n36 : Nx T J Hc H6 := n35.trans n6
        have eD6 : H6 D = some (.lst xs) := n36.le _ _ eD noT_lst hDJ
        have rl6 : RepL K (Rj (Sx S0 Γ) D) H6 xs acc := rl.nx (n36.mono fun b z => .inl (.inl (r.js b z)))
        have nP : Nx T (fun a => a = D) H6 (upd H6 D (.lst (xs ++ [v]))) := .put rfl eD6 trivial
        have nP' : Nx T (Rj (Sx S0 Γ) D) H6 (upd H6 D (.lst (xs ++ [v]))) := nP.mono fun b z => .inr z
        have rv' : Rep K (Rj (Sx S0 Γ) D) H6 v d := rv.sub (.of fun b z => by
          rw [Sx.eq o4, Sx.eq (wipeG_owned hw)]
          rcases z with (z | z) | z
          · exact .inl (.inl z)
          · exact .inr z
          · exact .inl (.inr z))
        refine ⟨xs, eD6, by rw [rl6.len]; omega, acc ++ [d], xs ++ [v], upd_same, (rl6.snoc rv').nx nP', by rw [List.length_append]; show acc.length + 1 ≤ i + 1; omega, p6, (back n36 r6.jr r6.tb).nxS (.inr rfl) hDJ nP, ?_⟩
        refine ⟨fun b o e no ns => ?_, fun b e => ?_, fun t => nP.tab ((nn.trans n36).tab t)⟩
        · have hb' : b ≠ D := fun z => by rw [z, hD] at e; cases e
          rw [upd_ne hb']
          exact (nn.trans n36).le b o e no ns
        · exact (nn.trans n36).dom b (nP.dom b e)
    · exact q D xs acc Hc (hd acc hl iv) (rc.less (fun a z => .inl z) r.js) (n1.trans nn) (n1.dom D (.of hD)) eD rl
end
end Lp

set_option Elab.async false
set_option linter.all false
set_option maxRecDepth 100000
set_option maxHeartbeats 4000000
/-! L11: calls and defs over data. Own work. -/
namespace Lp
open PySem PySem.Spec PyProof.Rows L2 LamX
abbrev FS := List Dt → (Rt → Prop) → XP → Prop
abbrev JS := List Dt → (Rt → Prop) → Prop
abbrev OS := List Dt → List Dt → (Rt → List Dt → Prop) → XP → Prop
abbrev Non : Ad := fun _ => False
abbrev noX : XP := fun _ _ => False
/-- what a caller of a def asks: F ds P X: given ds, it gives what P holds of or raises what X tells -/
def spD (K : Fg) (T : Tbl) (F : FS) : Sp := fun vs H Q E => ∃ (S0 : Ad) (ds : List Dt) (P : Rt → Prop) (X : XP), RepL K S0 H vs ds ∧ (∀ a, S0 a → ¬ Fre H a) ∧ Tabs T H ∧ F ds P X ∧
  (∀ v r H2, P r → Nx T Non H H2 → RepR K S0 (Fre H) H2 v r → Q v H2) ∧ XOk K T E X S0 Non Non H
/-- .. of one that is handed the jar first -/
def spJ (K : Fg) (T : Tbl) (F : JS) : Sp := fun vs H Q E => ∃ (S0 : Ad) (j : Addr) (ws : List V) (ds : List Dt) (P : Rt → Prop), vs = .ref j :: ws ∧ RepL K S0 H ws ds ∧ S0 j ∧ (∀ a, S0 a → ¬ Fre H a) ∧ Tabs T H ∧ JarOk H j ∧ F ds P ∧
  ∀ v r H2, P r → Nx T (fun a => a = j) H H2 → JarOk H2 j → RepR K S0 (Fre H) H2 v r → Q v H2
/-- .. of one that is handed a list first that it may change -/
def spO (K : Fg) (T : Tbl) (F : OS) : Sp := fun vs H Q E => ∃ (S0 : Ad) (p : Addr) (xs : List V) (ds : List Dt) (ws : List V) (es : List Dt) (P : Rt → List Dt → Prop) (X : XP), vs = .ref p :: ws ∧ ¬ S0 p ∧ H p = some (.lst xs) ∧ RepL K (Rj S0 p) H xs ds ∧ RepL K (Rj S0 p) H ws es ∧
  (∀ a, S0 a → ¬ Fre H a) ∧ Tabs T H ∧ F ds es P X ∧
  (∀ v r H2 xs' ds', P r ds' → Nx T (fun a => a = p) H H2 → H2 p = some (.lst xs') → RepL K (Rj S0 p) H2 xs' ds' → RepR K S0 (fun a => a = p ∨ Fre H a) H2 v r → Q v H2) ∧ XOk K T E X S0 Non (fun a => a = p) H
section
variable {K : Fg} {T : Tbl} {E E' : XK} {X : XP} {S S' S0 J O O' : Ad} {H H1 H2 : Hp} {Γ Γ1 Γ' : List Ent} {σ σ' : L2.St}
variable {N N' : List Ent → Prop} {R : Rt → List Ent → Prop} {B C : List Ent → Prop} {ts tu : TS} {te ta tb : TE} {tt : TT} {tr : TA} {P : Dt → Prop} {A : List Dt → Prop} {ti : TI} {F : FS} {FJ : JS} {FO : OS}
/-- what a called def may let out -/
theorem XOk.call (xo : XOk K T E X S0 J J H) (r1 : Rel K T S0 J Γ σ H1) (n1 : Nx T J H H1) : XOk K T E X (Sx S0 Γ) Non Non H1 := fun C fs xs dx H2 h1 n h2 h3 h4 _ =>
  (xo.nx n1) C fs xs dx H2 h1 (n.mono fun _ z => z.elim) h2 h3 (h4.sub (.of Sx.sub0)) fun a ha => (r1.jr a ha).nx n id
theorem call_core (h : EA K T E X tr Γ fun ds => F ds (fun r => P r.dt) X) (r : Rel K T S0 J Γ σ H) (xo : XOk K T E X S0 J J H) (hE : E' = E ∨ X = noX) {Q : VK}
    (q : ∀ v rr H1 H2, P rr.dt → Rel K T S0 J Γ σ H1 → Nx T J H H1 → Nx T Non H1 H2 → Rel K T S0 J Γ σ H2 → RepR K (Sx S0 Γ) (Fre H1) H2 v rr → Q v H2) : tCall (spD K T F) [] E' tr σ H Q :=
  h S0 J σ H r xo _ fun vs ds H1 f r1 n1 rl => by
    rw [List.append_nil]
    refine ⟨Sx S0 Γ, ds, _, X, rl, r1.live, r1.tb, f, fun v rr H2 p n2 rv => q v rr H1 H2 p r1 n1 n2 (r1.nx n2) rv, ?_⟩
    rcases hE with e | e
    · rw [e]
      exact xo.call r1 n1
    · rw [e]; exact .none
theorem RepR.sub0 {v : V} {r : Rt} (h : RepR K (Sx S0 Γ) O H v r) : Rep K (Sx S0 Γ) H v r.dt := h.rep
theorem x_call (h : EA K T E X tr Γ fun ds => F ds (fun r => P r.dt) X) : EX K T E X (tCall (spD K T F) [] E tr) Γ P := fun S0 J σ H r xo Q q =>
  call_core h r xo (.inl rfl) fun v rr H1 H2 p r1 n1 n2 r2 rv => q v rr.dt H2 p r2 (n1.trans (n2.mono fun _ z => z.elim)) rv.rep
/-- one that raises nothing -/
theorem x_callP (h : EA K T E X tr Γ fun ds => F ds (fun r => P r.dt) noX) : EX K T E X (tCall (spD K T F) [] E' tr) Γ P := fun S0 J σ H r xo Q q =>
  h S0 J σ H r xo _ fun vs ds H1 f r1 n1 rl => by
    rw [List.append_nil]
    exact ⟨Sx S0 Γ, ds, _, noX, rl, r1.live, r1.tb, f, fun v rr H2 p n2 rv => q v rr.dt H2 p (r1.nx n2) (n1.trans (n2.mono fun _ z => z.elim)) rv.rep, .none⟩
/-- one that gives a new list -/
theorem l_callP (h : EA K T E X tr Γ fun ds => F ds (fun r => ∃ es, r = .new es ∧ A es) noX) : EL K T E X (tCall (spD K T F) [] E' tr) Γ A := fun S0 J σ H r xo Q q =>
  h S0 J σ H r xo _ fun vs ds H1 f r1 n1 rl => by
    rw [List.append_nil]
    refine ⟨Sx S0 Γ, ds, _, noX, rl, r1.live, r1.tb, f, fun v rr H2 ⟨es, e, p⟩ n2 rv => ?_, .none⟩
    subst e
    obtain ⟨l, xs, e, h1, h2, h3, h4⟩ := rv
    subst e
    exact q l xs es H2 p (r1.nx n2) (n1.trans (n2.mono fun _ z => z.elim)) (n1.dom _ h2) h3 h4
theorem l_call (h : EA K T E X tr Γ fun ds => F ds (fun r => ∃ es, r = .new es ∧ A es) X) : EL K T E X (tCall (spD K T F) [] E tr) Γ A := fun S0 J σ H r xo Q q =>
  h S0 J σ H r xo _ fun vs ds H1 f r1 n1 rl => by
    rw [List.append_nil]
    refine ⟨Sx S0 Γ, ds, _, X, rl, r1.live, r1.tb, f, fun v rr H2 ⟨es, e, p⟩ n2 rv => ?_, xo.call r1 n1⟩
    subst e
    obtain ⟨l, xs, e, h1, h2, h3, h4⟩ := rv
    subst e
    exact q l xs es H2 p (r1.nx n2) (n1.trans (n2.mono fun _ z => z.elim)) (n1.dom _ h2) h3 h4
/-- one that is handed the jar -/
theorem jar_core {i : Nat} {j : Addr} (hj : Γ[i]? = some (.jar j)) (h : EA K T E X tr Γ fun ds => FJ ds fun r => P r.dt) (r : Rel K T S0 J Γ σ H) (xo : XOk K T E X S0 J J H) {Q : VK}
    (q : ∀ v rr H1 H2, P rr.dt → Rel K T S0 J Γ σ H1 → Nx T J H H1 → Nx T J H1 H2 → Rel K T S0 J Γ σ H2 → RepR K (Sx S0 Γ) (Fre H1) H2 v rr → Q v H2) : tCall (spJ K T FJ) [] E' (tCons (tVar i) tr) σ H Q := by
  obtain ⟨es, hJ, _⟩ := r.getJ hj
  refine ⟨_, es, h S0 J σ H r xo _ fun vs ds H1 f r1 n1 rl => ?_⟩
  show spJ K T FJ ((V.ref j :: vs) ++ []) H1 _ E'
  rw [List.append_nil]
  refine ⟨Sx S0 Γ, j, vs, ds, _, rfl, rl, .inl (r1.js j hJ), r1.live, r1.tb, r1.jr j hJ, f, fun v rr H2 p n2 ok rv => ?_⟩
  exact q v rr H1 H2 p r1 n1 (n2.mono fun b z => by rw [z]; exact hJ) (r1.nxJ hJ n2 ok) rv
theorem x_callJ {i : Nat} {j : Addr} (hj : Γ[i]? = some (.jar j)) (h : EA K T E X tr Γ fun ds => FJ ds fun r => P r.dt) : EX K T E X (tCall (spJ K T FJ) [] E' (tCons (tVar i) tr)) Γ P := fun S0 J σ H r xo Q q =>
  jar_core hj h r xo fun v rr H1 H2 p r1 n1 n2 r2 rv => q v rr.dt H2 p r2 (n1.trans n2) rv.rep
theorem l_callJ {i : Nat} {j : Addr} (hj : Γ[i]? = some (.jar j)) (h : EA K T E X tr Γ fun ds => FJ ds fun r => ∃ es, r = .new es ∧ A es) : EL K T E X (tCall (spJ K T FJ) [] E' (tCons (tVar i) tr)) Γ A := fun S0 J σ H r xo Q q => by
  obtain ⟨es, hJ, _⟩ := r.getJ hj
  refine ⟨_, es, h S0 J σ H r xo _ fun vs ds H1 f r1 n1 rl => ?_⟩
  show spJ K T FJ ((V.ref j :: vs) ++ []) H1 _ E'
  rw [List.append_nil]
  refine ⟨Sx S0 Γ, j, vs, ds, _, rfl, rl, .inl (r1.js j hJ), r1.live, r1.tb, r1.jr j hJ, f, fun v rr H2 ⟨es, e, p⟩ n2 ok rv => ?_⟩
  subst e
  obtain ⟨l, xs, e, h1, h2, h3, h4⟩ := rv
  subst e
  have n2' : Nx T J H1 H2 := n2.mono fun b z => by rw [z]; exact hJ
  exact q l xs es H2 p (r1.nxJ hJ n2 ok) (n1.trans n2') (n1.dom _ h2) h3 h4
theorem Rel.go' {S0 J : Ad} {σ : L2.St} {H H1 : Hp} (r : Rel K T S0 J Γ σ H1) (n : Nx T J H H1) : Go T J Γ H Γ H1 := ⟨n.mono fun _ z => .inl z, fun p h => .inl h⟩
/-- one that changes a list of the caller's own -/
theorem s_callO {i : Nat} {p : Addr} {ds : List Dt} (hp : Γ[i]? = some (.own p ds)) (h : EA K T E X tr Γ fun es => FO ds es (fun _ ds' => N (Γ.set i (.own p ds'))) noX) :
    SW K T E X (tDrop (tCall (spO K T FO) [] E' (tCons (tVar i) tr))) Γ N R B C := fun S0 J σ H r xo D n rt b c => by
  obtain ⟨es, _⟩ := r.getO hp
  refine ⟨_, es, h S0 J σ H r xo.ex _ fun vs ws H1 f r1 n1 rl => ?_⟩
  obtain ⟨_, xs, e2, rx⟩ := r1.getO hp
  show spO K T FO ((V.ref p :: vs) ++ []) H1 _ E'
  rw [List.append_nil]
  have hm := mem_owned hp
  have sub : ∀ b, Rj (fun a => Sx S0 Γ a ∧ a ≠ p) p b → Sx S0 Γ b := fun b z => by
    rcases z with z | z
    · exact z.1
    · rw [z]; exact .inr hm
  have sub' : ∀ b, Sx S0 Γ b → Rj (fun a => Sx S0 Γ a ∧ a ≠ p) p b := fun b z => by
    by_cases hb : b = p
    · exact .inr hb
    · exact .inl ⟨z, hb⟩
  refine ⟨fun a => Sx S0 Γ a ∧ a ≠ p, p, xs, ds, vs, ws, _, noX, rfl, fun z => z.2 rfl, e2, rx.sub (.of sub), rl.sub (.of sub), fun a z => r1.live a z.1, r1.tb, f, fun v rr H2 xs' ds' pp n2 ep rx' rv => ?_, .none⟩
  -- the list at slot i has its new items
  have rx2 : RepL K (Sx S0 Γ) H2 xs' ds' := rx'.sub (.of sub')
  have nS : Nx T (Sx S0 Γ) H1 H2 := n2.mono fun b z => by rw [z]; exact .inr hm
  refine n _ σ H2 pp ?_ ((r1.go' n1).trans ⟨n2.mono fun b z => by rw [z]; exact .inr hm, fun q hq => .inl (by rw [owned_own hp] at hq; exact hq)⟩)
  have hns := r1.os p hm
  refine ⟨r1.js, fun a ha => (r1.jr a ha).nx n2 fun z => hns (by rw [← z]; exact r1.js _ ha), fun a ha z => r1.wf a ha (n2.dom a z), n2.tab r1.tb, by rw [owned_own hp]; exact r1.nd, by rw [owned_own hp]; exact r1.os, by rw [List.length_set]; exact r1.len, fun k o e h1 h2 => ?_⟩
  rw [Sx.same hp]
  by_cases hk : k = i
  · subst hk
    have hl := (List.getElem?_eq_some_iff.mp h2).1
    rw [List.length_set] at hl
    rw [List.getElem?_set_self hl] at h2
    cases h2
    rw [es] at h1
    cases h1
    exact ⟨rfl, xs', ep, rx2⟩
  · rw [List.getElem?_set_ne (Ne.symm hk)] at h2
    have q := r1.at_ k o e h1 h2
    cases e with
    | emp => trivial
    | val d => obtain ⟨v, e1, e2⟩ := q; exact ⟨v, e1, e2.nx nS⟩
    | own b bs =>
      obtain ⟨e1, ys, e2, e3⟩ := q
      have hne : b ≠ p := fun z => by
        subst z
        exact Rel.chO.nd_two r1.nd hp h2 (Ne.symm hk)
      exact ⟨e1, ys, n2.le _ _ e2 noT_lst hne, e3.nx nS⟩
    | jar j => exact q
/-- w, l = f(..): a new list for slot k -/
theorem s_pairP {i k : Nat} (hik : i ≠ k) (h : EA K T E X tr Γ fun ds => F ds (fun r => ∃ d es, r = .pair d es ∧ ∀ p, p ∉ owned Γ → N ((Γ.set i (.val d)).set k (.own p es))) noX) :
    SW K T E X (tAsg (tCall (spD K T F) [] E' tr) (gTup K 2 (gCons (gName i) (gCons (gName k) gNil)))) Γ N R B C := fun S0 J σ H r xo D n rt b c =>
  h S0 J σ H r xo.ex _ fun vs ds H1 f r1 n1 rl => by
    rw [List.append_nil]
    refine ⟨Sx S0 Γ, ds, _, noX, rl, r1.live, r1.tb, f, fun v rr H2 ⟨d, es, e, pp⟩ n2 rv => ?_, .none⟩
    subst e
    obtain ⟨t, w, p, xs, e, h0, h1, hn, h2, ho, h3, h4, h5⟩ := rv
    subst e
    have n2J : Nx T J H1 H2 := n2.mono fun _ z => z.elim
    have r2 := r1.nx n2
    refine ⟨t, [w, .ref p], rfl, .inl (.inl h1), rfl, w, [.ref p], rfl, .ref p, [], rfl, rfl, ?_⟩
    have r3 := r2.setV (i := i) (h4.sub (.of Rj.sub))
    have q1 : ∀ z, z ∉ owned Γ → z ∉ owned (Γ.set i (.val d)) := fun z hz q => by
      rcases owned_set Γ z q with q | q
      · exact hz q
      · cases q
    have hno := r1.newNot ho
    have subx : ∀ b, Rj (Sx S0 (Γ.set i (.val d))) p b → Rj (Sx S0 Γ) p b := fun b z => by
      rcases z with (z | z) | z
      · exact .inl (.inl z)
      · rcases owned_set Γ b z with q | q
        · exact .inl (.inr q)
        · cases q
      · exact .inr z
    have fr0 := r1.notNew ho n2J
    refine n _ _ H2 (pp p hno) (r3.newO (i := k) (fun z => h2 (.inl z)) (q1 p hno) h3 (h5.sub (.of subx)) fun m o e g1 g2 => ?_) ?_
    · by_cases hm : m = i
      · subst hm
        have hl := (List.getElem?_eq_some_iff.mp g2).1
        rw [List.length_set] at hl
        have hs : m < σ.length := by rw [r.len]; exact hl
        rw [List.getElem?_set_self hl] at g2
        rw [List.getElem?_set_self hs] at g1
        cases g1; cases g2
        exact ⟨w, rfl, h4.sub (.of subx)⟩
      · rw [List.getElem?_set_ne (Ne.symm hm)] at g1 g2
        exact (fr0 m o e g1 g2).sub subx
    · have n12 := n1.trans n2J
      have gV : Go T J Γ H2 (Γ.set i (.val d)) H2 := .setV
      refine ⟨n12.mono fun _ z => .inl z, fun q hq => ?_⟩
      rcases owned_set _ q hq with z | z
      · rcases owned_set Γ q z with z | z
        · exact .inl z
        · cases z
      · rw [List.mem_singleton.mp z]; exact .inr (n1.dom _ ho)
/-! ### defs -/
theorem start_rel {n m : Nat} {Ns : List Str} {vs : List V} {ds : List Dt} (hl : ds.length = n) (hN : n + m = Ns.length) (rl : RepL K S0 H vs ds) (wf : ∀ a, S0 a → ¬ Fre H a) (tb : Tabs T H) :
    Rel K T S0 Non (ds.map Ent.val ++ List.replicate m .emp) (L2.start Ns vs) H := by
  have ow : owned (ds.map Ent.val ++ List.replicate m .emp) = [] := by
    unfold owned
    rw [List.flatMap_eq_nil_iff]
    intro e he
    rcases List.mem_append.mp he with h | h
    · obtain ⟨d, _, rfl⟩ := List.mem_map.mp h; rfl
    · rw [(List.mem_replicate.mp h).2]; rfl
  have hv := rl.len
  refine ⟨fun _ h => h.elim, fun _ h => h.elim, wf, tb, by rw [ow]; exact List.nodup_nil, by rw [ow]; exact fun _ h => (nomatch h), by simp [L2.start, hv]; omega, fun i o e h1 h2 => ?_⟩
  by_cases hi : i < ds.length
  · rw [List.getElem?_append_left (by simpa using hi), List.getElem?_map] at h2
    unfold L2.start at h1
    rw [List.getElem?_append_left (by simpa [hv] using hi), List.getElem?_map] at h1
    rw [List.getElem?_eq_getElem hi] at h2
    cases h2
    obtain ⟨v, hvv, rv⟩ := rl.get (List.getElem?_eq_getElem hi)
    rw [hvv] at h1
    cases h1
    exact ⟨v, rfl, rv.sub (.of fun b z => by
      rcases z with z | z
      · exact z
      · rw [ow] at z; cases z)⟩
  · rw [List.getElem?_append_right (by simpa using hi)] at h2
    have := List.mem_of_getElem? h2
    rw [(List.mem_replicate.mp this).2]
    trivial
theorem sx_nil {Γ0 : List Ent} (ow : owned Γ0 = []) : Sx Non Γ0 = Non := by
  funext a
  unfold Sx
  rw [ow]
  simp [Non]
theorem owned_vals (ds : List Dt) (m : Nat) : owned (ds.map Ent.val ++ List.replicate m .emp) = [] := by
  unfold owned
  rw [List.flatMap_eq_nil_iff]
  intro e he
  rcases List.mem_append.mp he with h | h
  · obtain ⟨d, _, rfl⟩ := List.mem_map.mp h; rfl
  · rw [(List.mem_replicate.mp h).2]; rfl
/-- a def's body does what its spec says -/
theorem fn_D {Ns : List Str} {vs : List V} {m : Nat} {t : TS} {Q : VK} (hF : ∀ ds P X, F ds P X → ds.length + m = Ns.length ∧ SW K T E X t (ds.map Ent.val ++ List.replicate m .emp) (fun _ => P (.val .non)) (fun r _ => P r) (fun _ => False) (fun _ => False))
    (h : spD K T F vs H Q E) : t { nx := fun _ H' => Q .non H', rt := Q } (L2.start Ns vs) H := by
  obtain ⟨S0, ds, P, X, rl, wf, tb, f, q, xo⟩ := h
  obtain ⟨hl, sw⟩ := hF ds P X f
  have ow := owned_vals ds m
  have en : ∀ {Γ' H'}, Go T Non (ds.map Ent.val ++ List.replicate m .emp) H Γ' H' → Nx T Non H H' := fun g => by
    have := g.nx
    rw [sx_nil ow] at this
    exact this
  refine sw S0 Non _ H (start_rel rfl hl rl wf tb) (by rw [sx_nil ow]; exact xo) _ (fun Γ' σ' H' p r g => q .non (.val .non) H' p (en g) .non) (fun r v Γ' σ' H' p _ g rv => q v r H' p (en g) (rv.mono fun a z => ?_)) (fun _ _ _ z => z.elim) (fun _ _ _ z => z.elim)
  rcases z with z | z
  · rw [ow] at z; cases z
  · exact z
/-- .. that is handed the jar -/
theorem fn_J {Ns : List Str} {vs : List V} {m : Nat} {t : TS} {Q : VK} (hF : ∀ j ds P, FJ ds P → 1 + ds.length + m = Ns.length ∧ SW K T E noX t (.jar j :: (ds.map Ent.val ++ List.replicate m .emp)) (fun _ => P (.val .non)) (fun r _ => P r) (fun _ => False) (fun _ => False))
    (h : spJ K T FJ vs H Q E) : t { nx := fun _ H' => Q .non H', rt := Q } (L2.start Ns vs) H := by
  obtain ⟨S0, j, ws, ds, P, ev, rl, hj, wf, tb, jo, f, q⟩ := h
  subst ev
  obtain ⟨hl, sw⟩ := hF j ds P f
  have hv := rl.len
  have r0 : Rel K T S0 Non (ds.map Ent.val ++ List.replicate m .emp) (ws.map some ++ List.replicate m none) H := by
    have := start_rel (Ns := List.replicate (ds.length + m) default) (m := m) rfl (by simp) rl wf tb
    unfold L2.start at this
    have e : (List.replicate (ds.length + m) (default : Str)).length - ws.length = m := by simp [hv]
    rw [e] at this
    exact this
  have ow : owned (.jar j :: (ds.map Ent.val ++ List.replicate m .emp)) = [] := owned_vals ds m
  have es : L2.start Ns (.ref j :: ws) = some (.ref j) :: (ws.map some ++ List.replicate m none) := by
    unfold L2.start
    have : Ns.length - (V.ref j :: ws).length = m := by simp only [List.length_cons]; omega
    rw [this]
    rfl
  rw [es]
  have sxe : Sx S0 (.jar j :: (ds.map Ent.val ++ List.replicate m .emp)) = Sx S0 (ds.map Ent.val ++ List.replicate m .emp) := Sx.eq (by rw [ow, owned_vals])
  have r1 : Rel K T S0 (fun a => a = j) (.jar j :: (ds.map Ent.val ++ List.replicate m .emp)) (some (.ref j) :: (ws.map some ++ List.replicate m none)) H := by
    refine ⟨fun a h => by rw [h]; exact hj, fun a h => by rw [h]; exact jo, wf, tb, by rw [ow]; exact List.nodup_nil, by rw [ow]; exact fun _ h => (nomatch h), by rw [List.length_cons, List.length_cons, r0.len], fun i o e h1 h2 => ?_⟩
    rw [sxe]
    cases i with
    | zero => cases h1; cases h2; exact ⟨rfl, rfl⟩
    | succ i =>
      have := r0.at_ i o e (by simpa using h1) (by simpa using h2)
      cases e with
      | emp => trivial
      | val d => exact this
      | own p ds => exact this
      | jar j' => exact this.2.elim
  have en : ∀ {Γ' H'}, Go T (fun a => a = j) (.jar j :: (ds.map Ent.val ++ List.replicate m .emp)) H Γ' H' → Nx T (fun a => a = j) H H' := fun g => g.nx.mono fun b z => by
    rcases z with z | z
    · exact z
    · rw [ow] at z; cases z
  refine sw S0 (fun a => a = j) _ H r1 .none _ (fun Γ' σ' H' p r g => q .non (.val .non) H' p (en g) (r.jr j rfl) .non) (fun r v Γ' σ' H' p r2 g rv => q v r H' p (en g) (r2.jr j rfl) (rv.mono fun a z => ?_)) (fun _ _ _ z => z.elim) (fun _ _ _ z => z.elim)
  rcases z with z | z
  · rw [ow] at z; cases z
  · exact z
theorem start_tail {m : Nat} {ws : List V} {ds : List Dt} (rl : RepL K S0 H ws ds) (wf : ∀ a, S0 a → ¬ Fre H a) (tb : Tabs T H) : Rel K T S0 Non (ds.map Ent.val ++ List.replicate m .emp) (ws.map some ++ List.replicate m none) H := by
  have hv := rl.len
  have := start_rel (Ns := List.replicate (ds.length + m) default) (m := m) rfl (by simp) rl wf tb
  unfold L2.start at this
  have e : (List.replicate (ds.length + m) (default : Str)).length - ws.length = m := by simp [hv]
  rw [e] at this
  exact this
theorem start_own {m : Nat} {p : Addr} {xs ws : List V} {ds es : List Dt} (hs : ¬ S0 p) (hp : H p = some (.lst xs)) (rx : RepL K (Rj S0 p) H xs ds) (rw' : RepL K (Rj S0 p) H ws es) (wf : ∀ a, S0 a → ¬ Fre H a) (tb : Tabs T H) :
    Rel K T S0 Non (.own p ds :: (es.map Ent.val ++ List.replicate m .emp)) (some (.ref p) :: (ws.map some ++ List.replicate m none)) H := by
  have wf' : ∀ a, Rj S0 p a → ¬ Fre H a := fun a z q => by
    rcases z with z | z
    · exact wf a z q
    · rw [z] at q; exact q _ hp noT_lst
  have r0 := start_tail (T := T) (m := m) rw' wf' tb
  have ow : owned (.own p ds :: (es.map Ent.val ++ List.replicate m .emp)) = [p] := by
    show [p] ++ owned (es.map Ent.val ++ List.replicate m .emp) = [p]
    rw [owned_vals]; rfl
  have sx : ∀ b, Sx S0 (.own p ds :: (es.map Ent.val ++ List.replicate m .emp)) b → Rj S0 p b := fun b z => by
    rcases z with z | z
    · exact .inl z
    · rw [ow] at z; exact .inr (List.mem_singleton.mp z)
  refine ⟨fun _ h => h.elim, fun _ h => h.elim, wf, tb, by rw [ow]; simp, by rw [ow]; exact fun q hq => by rw [List.mem_singleton.mp hq]; exact hs, by rw [List.length_cons, List.length_cons, r0.len], fun i o e h1 h2 => ?_⟩
  cases i with
  | zero => cases h1; cases h2; exact ⟨rfl, xs, hp, rx.sub (.of sx)⟩
  | succ i =>
    exact (r0.at_ i o e (by simpa using h1) (by simpa using h2)).sub fun b z => .inl (sx b z)
/-- a def that is handed a list it may change -/
theorem fn_O {Ns : List Str} {vs : List V} {m : Nat} {t : TS} {Q : VK} (hF : ∀ p ds es P X, FO ds es P X → 1 + es.length + m = Ns.length ∧ SW K T E X t (.own p ds :: (es.map Ent.val ++ List.replicate m .emp))
      (fun Γ' => ∃ ds', Γ'[0]? = some (.own p ds') ∧ P (.val .non) ds') (fun r Γ' => ∃ ds', Γ'[0]? = some (.own p ds') ∧ P r ds') (fun _ => False) (fun _ => False))
    (h : spO K T FO vs H Q E) : t { nx := fun _ H' => Q .non H', rt := Q } (L2.start Ns vs) H := by
  obtain ⟨S0, p, xs, ds, ws, es, P, X, ev, hs, hp, rx, rw', wf, tb, f, q, xo⟩ := h
  subst ev
  obtain ⟨hl, sw⟩ := hF p ds es P X f
  have hv := rw'.len
  have est : L2.start Ns (.ref p :: ws) = some (.ref p) :: (ws.map some ++ List.replicate m none) := by
    unfold L2.start
    have : Ns.length - (V.ref p :: ws).length = m := by simp only [List.length_cons]; omega
    rw [this]
    rfl
  rw [est]
  have ow : owned (.own p ds :: (es.map Ent.val ++ List.replicate m .emp)) = [p] := by
    show [p] ++ owned (es.map Ent.val ++ List.replicate m .emp) = [p]
    rw [owned_vals]; rfl
  have sx : Sx Non (.own p ds :: (es.map Ent.val ++ List.replicate m .emp)) = fun a => a = p := by
    funext a
    unfold Sx
    rw [ow]
    simp [Non]
  have en : ∀ {Γ' H'}, Go T Non (.own p ds :: (es.map Ent.val ++ List.replicate m .emp)) H Γ' H' → Nx T (fun a => a = p) H H' := fun g => by
    have := g.nx
    rw [sx] at this
    exact this
  have fin : ∀ {Γ' σ' H' ds'}, Rel K T S0 Non Γ' σ' H' → Γ'[0]? = some (.own p ds') → ∃ xs', H' p = some (.lst xs') ∧ RepL K (Rj S0 p) H' xs' ds' := fun r h0 => by
    obtain ⟨_, xs', e2, rl⟩ := r.getO h0
    exact ⟨xs', e2, rl.sub (.of fun b z => by
      rcases z with z | z
      · exact .inl z
      · rw [z]; exact .inr (mem_owned h0))⟩
  refine sw S0 Non _ H (start_own hs hp rx rw' wf tb) (by rw [sx]; exact xo) _ (fun Γ' σ' H' ⟨ds', h0, pp⟩ r g => ?_) (fun r v Γ' σ' H' ⟨ds', h0, pp⟩ r2 g rv => ?_) (fun _ _ _ z => z.elim) (fun _ _ _ z => z.elim)
  · obtain ⟨xs', e2, rl⟩ := fin r h0
    exact q .non (.val .non) H' xs' ds' pp (en g) e2 rl .non
  · obtain ⟨xs', e2, rl⟩ := fin r2 h0
    refine q v r H' xs' ds' pp (en g) e2 rl (rv.mono fun a z => ?_)
    rcases z with z | z
    · rw [ow] at z; exact .inl (List.mem_singleton.mp z)
    · exact .inr z
/-- .. that changes the jar: it is a list of its own there -/
def intsD (l : List Int) : List Dt := l.map Dt.int
theorem RepL.ints : ∀ {l : List Int} {vs : List V}, RepL K S H vs (intsD l) → vs = l.map V.int
  | [], _, r => by cases r; rfl
  | i :: l, _, r => by
    cases r with
    | cons h r => cases h; rw [RepL.ints r]; rfl
theorem RepL.ofInts : ∀ {l : List Int}, RepL K S H (l.map V.int) (intsD l)
  | [] => .nil
  | _ :: _ => .cons (.int _) RepL.ofInts
/-- a def that draws from the jar -/
theorem fn_JO {Ns : List Str} {vs : List V} {m : Nat} {t : TS} {Q : VK} (hF : ∀ j a b c ds P, FJ ds P → 0 ≤ b → b < 2147483647 → 1 + ds.length + m = Ns.length ∧ SW K T E noX t (.own j (intsD [a, b, c]) :: (ds.map Ent.val ++ List.replicate m .emp))
      (fun _ => False) (fun r Γ' => (∃ i, r = .val (.int i)) ∧ P r ∧ ∃ a' b' c', Γ'[0]? = some (.own j (intsD [a', b', c'])) ∧ 0 ≤ b' ∧ b' < 2147483647) (fun _ => False) (fun _ => False))
    (h : spJ K T FJ vs H Q E) : t { nx := fun _ H' => Q .non H', rt := Q } (L2.start Ns vs) H := by
  obtain ⟨S0, j, ws, ds, P, ev, rl, hj, wf, tb, jo, f, q⟩ := h
  subst ev
  obtain ⟨a, b, c, hp, hb1, hb2⟩ := jo
  obtain ⟨hl, sw⟩ := hF j a b c ds P f hb1 hb2
  have hv := rl.len
  have est : L2.start Ns (.ref j :: ws) = some (.ref j) :: (ws.map some ++ List.replicate m none) := by
    unfold L2.start
    have : Ns.length - (V.ref j :: ws).length = m := by simp only [List.length_cons]; omega
    rw [this]
    rfl
  rw [est]
  have sub : ∀ b, Rj (fun a => S0 a ∧ a ≠ j) j b → S0 b := fun b z => by
    rcases z with z | z
    · exact z.1
    · rw [z]; exact hj
  have r0 := start_own (T := T) (m := m) (S0 := fun a => S0 a ∧ a ≠ j) (ds := intsD [a, b, c]) (fun z => z.2 rfl) hp (RepL.ofInts (l := [a, b, c])) (rl.sub (.of sub)) (fun a z => wf a z.1) tb
  have ow : owned (.own j (intsD [a, b, c]) :: (ds.map Ent.val ++ List.replicate m .emp)) = [j] := by
    show [j] ++ owned (ds.map Ent.val ++ List.replicate m .emp) = [j]
    rw [owned_vals]; rfl
  refine sw _ Non _ H r0 .none _ (fun _ _ _ z => z.elim) (fun r v Γ' σ' H' ⟨⟨i, ei⟩, pp, a', b', c', h0, h1, h2⟩ r2 g rv => ?_) (fun _ _ _ z => z.elim) (fun _ _ _ z => z.elim)
  subst ei
  obtain ⟨_, xs', e2, rl'⟩ := r2.getO h0
  rw [RepL.ints rl'] at e2
  cases (show Rep K _ H' v (.int i) from rv)
  exact q _ (.val (.int i)) H' pp (g.nx.mono fun b z => by
    rcases z with z | z
    · exact z.elim
    · rw [ow] at z; exact List.mem_singleton.mp z) ⟨a', b', c', e2, h1, h2⟩ (.int i)
end
end Lp

set_option Elab.async false
set_option linter.all false
set_option maxRecDepth 100000
set_option maxHeartbeats 4000000
/-! L12: raises, and a def that is handed a lambda, over data. Own work. -/
namespace Lp
open PySem PySem.Spec PyProof.Rows L2 LamX
/-- what such a def tells of a raised error -/
def HX (K : Fg) (P : Dt → Prop) : List HCl → Addr → List (Str × Dt) → Prop
  | [], _, _ => False
  | (C', nm, fo) :: r, C, fs => ∃ b, PySem.W.exmOne K (.ref C) (.ref C') = some b ∧ (b = true → (match fo with
      | some f => C = C' ∧ ∃ d, fs.lookup f = some d ∧ P (.tup [.str nm, d])
      | none => P (.tup [.str nm, .non]))) ∧ (b = false → HX K P r C fs)
section
variable {K : Fg} {T : Tbl} {E E' : XK} {X : XP} {S S' S0 J O O' : Ad} {H H1 H2 : Hp} {Γ Γ1 Γ' : List Ent} {σ σ' : L2.St}
variable {N N' : List Ent → Prop} {R : Rt → List Ent → Prop} {B C : List Ent → Prop} {ts tu : TS} {te ta tb : TE} {tt : TT} {tr : TA} {P : Dt → Prop} {A : List Dt → Prop} {ti : TI} {F : FS} {FJ : JS} {FO : OS}
theorem s_raise {Cl : Addr} {f : Str} (h : EX K T E X te Γ fun d => X Cl [(f, d)]) : SW K T E X (tRz Cl (spX Cl f) E (tCons te tNil)) Γ N R B C := fun S0 J σ H r xo D n rt b c => by
  show tMkO Cl (spX Cl f) [] (tCons te tNil) σ H fun cls d H' => E cls d H'
  refine h S0 J σ H r xo.ex _ fun v d H1 p r1 n1 rv => ?_
  refine rz_k fun dx hd => ?_
  have n2 : ∀ {S : Ad}, Nx T S H1 (upd H1 dx (.xd [(f, v)])) := fun {S} => .new hd noT_xd
  exact xo Cl [(f, d)] [(f, v)] dx _ p ((n1.mono fun _ z => .inl z).trans n2) (n1.dom _ (.of hd)) upd_same (.cons ((rv.sub (.of Sx.sub0)).nx n2) .nil) fun a ha => (r1.nx n2).jr a ha
theorem RepF.lookup {f : Str} {d : Dt} : ∀ {xs : List (Str × V)} {fs : List (Str × Dt)}, RepF K S H xs fs → fs.lookup f = some d → ∃ v, xs.lookup f = some v ∧ Rep K S H v d
  | _, _, .nil, h => by cases h
  | _, _, @RepF.cons _ _ _ k v d' xs fs r t, h => by
    rw [List.lookup_cons] at h ⊢
    cases hk : f == k with
    | true => rw [hk] at h; cases h; exact ⟨v, rfl, r⟩
    | false => rw [hk] at h; exact RepF.lookup t h
/-- from the jars on, all that is told stands -/
theorem Rel.nxJJ (rc : Rel K T S0 J Γ σ H) (nz : Nx T J H H1) (jz : ∀ a, J a → JarOk H1 a) : Rel K T S0 J Γ σ H1 := by
  refine ⟨rc.js, jz, fun a h z => rc.wf a h (nz.dom a z), nz.tab rc.tb, rc.nd, rc.os, rc.len, fun k o e h1 h2 => ?_⟩
  have q := rc.at_ k o e h1 h2
  have m : Nx T (Sx S0 Γ) H H1 := nz.mono fun b z => .inl (rc.js b z)
  cases e with
  | emp => trivial
  | val d => obtain ⟨v, e1, e2⟩ := q; exact ⟨v, e1, e2.nx m⟩
  | own b ds => obtain ⟨e1, xs, e2, e3⟩ := q; exact ⟨e1, xs, nz.le _ _ e2 noT_lst (fun z => rc.os b (mem_owned h2) (rc.js _ z)), e3.nx m⟩
  | jar k => exact q
theorem pair_size {v w : V} : [v, w].length ≤ sizeLine := by show 2 ≤ sizeLine; decide
/-- a new pair of a word and a value -/
theorem new_pair {w : Str} {v : V} {d : Dt} {p : Addr} (hp : H p = none) (hs : ¬ S p) (rv : Rep K S H v d) : Rep K S (upd H p (.tup [.str w, v])) (.ref p) (.tup [.str w, d]) :=
  .tup (.inl ⟨hs, .inl upd_same⟩) (.cons (.str w) (.cons (rv.nx (T := []) (.new hp noT_tup)) .nil))
theorem x_told {w : Str} {L : List HCl} {Pt : Dt → Prop} {X' : XP} {t : XK → TE} (h : ∀ E', EX K T E' X' (t E') Γ Pt) (hok : ∀ d, Pt d → P (.tup [.str w, d])) (hx : ∀ Cl fs, X' Cl fs → HX K P L Cl fs)
    (ow : owned Γ = []) : EX K T E X (tLam T (TTh K w L) t) Γ P := fun S0 J σ H r xo Q q => by
  refine ⟨r.tb, fun H1 e tb => ?_⟩
  have n1 : ∀ {S : Ad}, Nx T S H H1 := fun {S} => .of_ext e tb
  have r1 := r.nx n1
  have sx0 : Sx S0 Γ = S0 := by
    funext a
    unfold Sx
    rw [ow]
    simp
  have fin : ∀ {H2 : Hp} {v : V} {d : Dt} {nm : Str}, Rel K T S0 J Γ σ H2 → Nx T J H H2 → Rep K (Sx S0 Γ) H2 v d → P (.tup [.str nm, d]) → ∀ p, H2 p = none → Q (.ref p) (upd H2 p (.tup [.str nm, v])) := fun {H2 v d nm} r2 n2 rv pp p hp => by
    have n3 : ∀ {S : Ad}, Nx T S H2 (upd H2 p (.tup [.str nm, v])) := fun {S} => .new hp noT_tup
    exact q _ _ _ pp (r2.nx n3) (n2.trans n3) (new_pair hp (r2.fresh (.of hp)) rv)
  refine h (hCh K Q L) S0 J σ H1 r1 (fun Cl fs xs dx H2 x' n2 fd ed rf jz => ?_) _ fun v d H2 p r2 n2 rv => ⟨pair_size, fin r2 (n1.trans n2) rv (hok d p)⟩
  have r2 : Rel K T S0 J Γ σ H2 := r1.nxJJ n2 jz
  have n12 : Nx T J H H2 := n1.trans n2
  have go : ∀ L : List HCl, HX K P L Cl fs → hCh K Q L (.ref Cl) (some dx) H2 := fun L => by
    induction L with
    | nil => exact fun z => z.elim
    | cons c L ih =>
      obtain ⟨C', nm, fo⟩ := c
      intro hz
      obtain ⟨b, hb, hy, hn⟩ := hz
      refine ⟨b, hb, fun e => ?_, fun e => ih (hn e)⟩
      have hy := hy e
      cases fo with
      | some f =>
        obtain ⟨ec, d, hl, pp⟩ := hy
        obtain ⟨v, hv, rv⟩ := rf.lookup hl
        exact ⟨by rw [ec], dx, xs, v, rfl, ed, hv, fin r2 n12 (by rw [sx0]; exact rv) pp⟩
      | none => exact fin r2 n12 .non hy
  exact go L (hx Cl fs x')
end
end Lp

set_option Elab.async false
set_option linter.all false
set_option maxRecDepth 100000
set_option maxHeartbeats 4000000
/-! L13: what the head tells, by places; exceptions; a lambda handed over. Own work. -/
namespace Lp
open PySem PySem.Spec PyProof.Rows L2 LamX
/-- an own exception's class, as OexC wishes it -/
def oexB (K : Fg) (C : Addr) : Bool := (match K.lookup C with
  | some ⟨.type t, _, .cls cd, sl⟩ => (match cd.mro, sl.toList with
    | .ref C' :: bm, [_, _, _, _, some (.builtin n), _] => decide (t = "type") && (decide (C' = C) && (decide (n = "ValueError.__new__") && (!cd.hasDel && (cd.hasDict && PySem.HandSPX.refsVE bm))))
    | _, _ => false)
  | _ => false) && (decide (PySem.W.findIn K (.ref C) "__setattr__" = some (some (.builtin "object.__setattr__"))) && (decide (PySem.W.subIn K (.ref C) (.type "BaseException") = some true) && (decide (PySem.W.typeIn K (.ref C) = some (.type "type")) && PySem.W.keepIn K (.ref C))))
theorem ba2 {a b : Bool} (h : (a && b) = true) : a = true ∧ b = true := Bool.and_eq_true_iff.mp h
theorem oexB_ok {K : Fg} {C : Addr} (h : oexB K C = true) : OexC K C := by
  obtain ⟨q, h⟩ := ba2 h
  obtain ⟨h1, h⟩ := ba2 h
  obtain ⟨h2, h⟩ := ba2 h
  obtain ⟨h3, h4⟩ := ba2 h
  refine ⟨?_, of_decide_eq_true h1, of_decide_eq_true h2, of_decide_eq_true h3, h4⟩
  split at q
  · rename_i t dd cd sl ho
    split at q
    · rename_i C' bm k0 k1 k2 k3 n k5 hm hs
      obtain ⟨q1, q⟩ := ba2 q
      obtain ⟨q2, q⟩ := ba2 q
      obtain ⟨q3, q⟩ := ba2 q
      obtain ⟨q4, q⟩ := ba2 q
      obtain ⟨q5, q6⟩ := ba2 q
      have e1 := of_decide_eq_true q1
      have e2 := of_decide_eq_true q2
      have e3 := of_decide_eq_true q3
      subst e1 e2 e3
      obtain ⟨nm, bs, mro, ns, qn, hd, sn, sub, ab, col, del⟩ := cd
      dsimp only at hm q4 q5
      have q4' : del = false := by simpa using q4
      subst hm q4' q5
      have hsl : sl = #[k0, k1, k2, k3, some (.builtin "ValueError.__new__"), k5] := by
        obtain ⟨l⟩ := sl
        simp only at hs
        rw [hs]
      subst hsl
      exact ⟨nm, qn, ns, bs, bm, sn, sub, ab, col, dd, k0, k1, k2, k3, k5, ho, q6⟩
    · cases q
  · cases q
/-- an own exception with an __init__ of its own that keeps what it gets in f -/
def excB (K : Fg) (x f : Str) : Bool := oexB K (He.ga K x) && (xfB K (He.ga K x) && (decide (PySem.W.findIn K (.ref (He.ga K x)) f = some none) &&
  (decide (PySem.W.findIn K (.ref (He.ga K x)) "__init__" = some (some (.ref (He.ma K (He.ga K x) "__init__")))) && decide (PySem.W.typeIn K (.ref (He.ma K (He.ga K x) "__init__")) = some (.type "function")))))
/-- an own base class whose __init__ is ValueError's -/
def stB (K : Fg) (C : Addr) : Bool := PySem.W.readsIn K C (.type "type") && (decide (PySem.W.specialIn K (.ref C) "__getattribute__" = some (some (.builtin "type.__getattribute__"))) && (match PySem.W.findCls K (.ref C) (.type "type") "__init__" with
  | some (.val (.builtin n)) => decide (n = "ValueError.__init__")
  | _ => false))
theorem stB_ok {K : Fg} {C : Addr} (h : stB K C = true) : StBase K C := by
  obtain ⟨h1, h⟩ := ba2 h
  obtain ⟨h2, h3⟩ := ba2 h
  refine ⟨⟨h1, of_decide_eq_true h2⟩, ?_⟩
  split at h3
  · rename_i n e
    rw [e, of_decide_eq_true h3]
  · cases h3
/-- what the head tells, at (K, mg) -/
structure HdF (fa : List He.Fa) (fn : List He.DefD) (tf : List He.Defn) (ex : Fg → Bool) (w : World) (K : Fg) (mg : Str → Option Value) (base : Heap) : Prop where
  ex : ∃ h, K.In h ∧ h.Ns mainGlobals mg ∧ He.SaysX fa fn [] tf ex w h K
  tb : ∀ p ∈ tf, TabB base mg (He.cT K p).1 (He.cT K p).2
section
variable {fa : List He.Fa} {fn : List He.DefD} {tf : List He.Defn} {ex : Fg → Bool} {w : World} {K : Fg} {mg : Str → Option Value} {base : Heap} (T : HdF fa fn tf ex w K mg base)
include T
theorem HdF.glo (i : Nat) {x : Str} (h : fa[i]? = some (.glo x) := by rfl) : mg x = some (.ref (He.ga K x)) := by
  obtain ⟨h0, X, G, c⟩ := T.ex
  exact He.glo_ok X G (c.t.d.fact i h)
theorem HdF.free (i : Nat) {x : Str} (h : fa[i]? = some (.free x) := by rfl) : mg x = none := by
  obtain ⟨h0, X, G, c⟩ := T.ex
  exact He.free_ok X G (c.t.d.fact i h)
theorem HdF.int (i : Nat) {x : Str} {n : Int} (h : fa[i]? = some (.int x n) := by rfl) : ∃ u, mg x = some u ∧ RelV (.int n) u := by
  obtain ⟨h0, X, G, c⟩ := T.ex
  obtain ⟨t, e⟩ := He.int_ok X G (c.t.d.fact i h)
  exact ⟨_, e, t, rfl⟩
theorem HdF.str (i : Nat) {x z : Str} (h : fa[i]? = some (.str x z) := by rfl) : ∃ u, mg x = some u ∧ RelV (.str z) u := by
  obtain ⟨h0, X, G, c⟩ := T.ex
  obtain ⟨t, e⟩ := He.str_ok X G (c.t.d.fact i h)
  exact ⟨_, e, t, rfl⟩
theorem HdF.exm (i : Nat) {x y : Str} {b : Bool} (h : fa[i]? = some (.exm x y b) := by rfl) : PySem.W.exmOne K (.ref (He.ga K x)) (.ref (He.ga K y)) = some b := by
  obtain ⟨h0, X, G, c⟩ := T.ex
  have e : He.Fa.ok K (.exm x y b) = true := c.t.d.fact i h
  exact of_decide_eq_true e
theorem HdF.def_ (i : Nat) {d : He.DefD} (h : fn[i]? = some d := by rfl) : ∃ fd, FunD K d.name d.qual d.params d.body d.scope (d.dvs K) (d.kws K) (He.fAd K d.at_) fd := by
  obtain ⟨h0, X, G, c⟩ := T.ex
  exact c.t.d.def_ i h
theorem HdF.more : ex K = true := by
  obtain ⟨h0, X, G, c⟩ := T.ex
  exact c.more
end
/-! ### texts in a row: a < b for pairs of texts -/
def rLtP (K : Fg) : R2 := fun x y H Q => ∃ (a b : Addr) (s1 s2 t1 t2 : Str), x = .ref a ∧ y = .ref b ∧ SqT K H a [.str s1, .str s2] ∧ SqT K H b [.str t1, .str t2] ∧
  Q (.bl (if s1 = t1 then decide (s2.cps.toList < t2.cps.toList) && !decide (s2 = t2) else decide (s1.cps.toList < t1.cps.toList))) H
theorem two_strs {vs : List Value} {a b : Str} (r : Vals [.str a, .str b] vs) : ∃ t u, vs = [.str a t, .str b u] := by
  cases r with
  | cons r1 r =>
    cases r with
    | cons r2 r =>
      cases r
      obtain ⟨t, rfl⟩ := r1
      obtain ⟨u, rfl⟩ := r2
      exact ⟨t, u, rfl⟩
theorem op_ltP {X : Cx} (hu : X.A.units < cLine) : OpR X (compareOp .Lt) (rLtP X.K) := by
  intro pins s σ H x y v u Q I rx ry h
  obtain ⟨a, b, s1, s2, t1, t2, rfl, rfl, ha, hb, q⟩ := h
  cases rx
  cases ry
  obtain ⟨its, r1, p1, _⟩ := I.tuple ha
  obtain ⟨its2, r2, p2, _⟩ := I.tuple hb
  obtain ⟨k1, k2, e1⟩ := two_strs r1
  obtain ⟨m1, m2, e2⟩ := two_strs r2
  subst e1 e2
  have R := Ob.RcOp.tuples_lt (A := X.A) (s := s) (e := fun j => if j = 0 then s1 == t1 else s2 == t2) (r := fun j => if j = 0 then decide (s1.cps.toList < t1.cps.toList) else decide (s2.cps.toList < t2.cps.toList)) p1 p2 hu (fun j h1 h2 => by
    match j, h1, h2 with
    | 0, _, _ => exact SeqAt.EqAt.str_str _ _ _ _
    | 1, _, _ => exact SeqAt.EqAt.str_str _ _ _ _) (fun j h1 h2 _ => by
    match j, h1, h2 with
    | 0, _, _ => exact fun _ _ _ _ h => PyProof.Rows.lt_str h
    | 1, _, _ => exact fun _ _ _ _ h => PyProof.Rows.lt_str h)
  have z : wpAny (model X.prog X.w) X.A (compareOp .Lt (.ref a) (.ref b)) (EP X pins σ Q) X.xe s := R X.prog X.w X.xe (EP X pins σ Q) (by
    refine ⟨.bl _, H, I, rfl, ?_⟩
    have e : Ob.lexAt (fun j => if j = 0 then s1 == t1 else s2 == t2) (fun j => if j = 0 then decide (s1.cps.toList < t1.cps.toList) else decide (s2.cps.toList < t2.cps.toList)) (decide ((2 : Nat) < 2)) 0 (min 2 2) =
        (if s1 = t1 then decide (s2.cps.toList < t2.cps.toList) && !decide (s2 = t2) else decide (s1.cps.toList < t1.cps.toList)) := by
      show Ob.lexAt _ _ _ 0 2 = _
      rw [Ob.lexAt_succ]
      by_cases q1 : s1 = t1
      · subst q1
        rw [if_pos (by simp), Ob.lexAt_succ, if_pos rfl]
        by_cases q2 : s2 = t2
        · subst q2
          rw [if_pos (by simp), Ob.lexAt_zero]; simp
        · rw [if_neg (by simp [q2])]; simp [q2]
      · rw [if_neg (by simp [q1]), if_neg q1]; simp
    rw [← e] at q
    exact q)
  exact z
def vLt (K : Fg) : R2 := fun x y H Q => uLt x y H Q ∨ rLtP K x y H Q
theorem op_vLt {X : Cx} (hu : X.A.units < cLine) : OpR X (compareOp .Lt) (vLt X.K) := op_uLt.or (op_ltP hu)
/-- the units that a def's room leaves -/
theorem units0 {k : Nat} {A : Around} (r : Room k A) : A.units < cLine := by have := r.un; omega
section
variable {K : Fg} {T : Tbl} {E E' : XK} {X : XP} {S S' S0 J O O' : Ad} {H H1 H2 : Hp} {Γ Γ1 Γ' : List Ent} {σ σ' : L2.St} {P : Dt → Prop} {ta tb te : TE}
theorem x_ltV (ha : EX K T E X ta Γ fun x => EX K T E X tb Γ fun y => ∃ i j, x = .int i ∧ y = .int j ∧ P (.bl (decide (i < j)))) : EX K T E X (tOp (vLt K) ta tb) Γ P :=
  x_ii (P2 := fun _ _ => True) (fun i j S H => .bl _) (fun i j H Q _ q => .inl (.inl ⟨i, j, rfl, rfl, q⟩)) (ha.imp fun x hx => hx.imp fun y ⟨i, j, h1, h2, p⟩ => ⟨i, j, h1, h2, trivial, p⟩)
theorem x_ltVS (ha : EX K T E X ta Γ fun x => EX K T E X tb Γ fun y => ∃ i j, x = .str i ∧ y = .str j ∧ P (.bl (decide (i.cps.toList < j.cps.toList)))) : EX K T E X (tOp (vLt K) ta tb) Γ P :=
  x_op (ha.imp fun x hx => hx.imp fun y ⟨i, j, ex, ey, p⟩ S0 J σ H v w rl rv rw' Q q => by
    subst ex; subst ey
    cases rv; cases rw'
    exact .inl (.inr ⟨i, j, rfl, rfl, q _ _ H p rl .refl (.bl _)⟩))
theorem RepL.str2 {vs : List V} {a b : Str} (r : RepL K S H vs [.str a, .str b]) : vs = [.str a, .str b] := RepL.strs (bs := [a, b]) r
theorem x_ltVP (ha : EX K T E X ta Γ fun x => EX K T E X tb Γ fun y => ∃ s1 s2 t1 t2, x = .tup [.str s1, .str s2] ∧ y = .tup [.str t1, .str t2] ∧
      P (.bl (if s1 = t1 then decide (s2.cps.toList < t2.cps.toList) && !decide (s2 = t2) else decide (s1.cps.toList < t1.cps.toList)))) : EX K T E X (tOp (vLt K) ta tb) Γ P :=
  x_op (ha.imp fun x hx => hx.imp fun y ⟨s1, s2, t1, t2, ex, ey, p⟩ S0 J σ H v w rl rv rw' Q q => by
    subst ex; subst ey
    cases rv with
    | tup h1 r1 =>
      cases rw' with
      | tup h2 r2 =>
        rw [r1.str2] at h1
        rw [r2.str2] at h2
        exact .inr ⟨_, _, s1, s2, t1, t2, rfl, rfl, h1.sq, h2.sq, q _ _ H p rl .refl (.bl _)⟩)
end
/-! ### x(lambda: ..), x a def whose function the head tells -/
section
variable {X : Cx}
theorem pe_lamD {T : Tbl} {TT : (XK → Hp → VK → Prop) → Hp → VK → Prop} {x a : Str} {g c P : Addr} {k : Nat} {pg : Arguments} {bg : List Stmt} {sg : Scope} {fd : FuncData} {Ng : List Str}
    {params : Arguments} {body : Expr} {scope : Scope} {t : XK → TE} {p lpos pos : Pos} (F : FunD X.K x x pg bg sg [] [] g fd) (hb : L2.Binds X.K fd [a] []) (hg : Gl X x) (hm : X.mg x = some (.ref g)) (Sg : FnScope Ng [a] sg) (hNg : Ng[0]? = some a) (hva : Vis sg a)
    (hG : ∀ cdv, GivesTo X Ng x sg g cdv bg a (X.env.qual ++ "<lambda>") TT)
    (TB : TabB X.base X.mg c P) (hcode : X.env.code = .ref c) (hmT : (P, X.env.qual ++ "<lambda>") ∈ T) (hu : ∀ p ∈ T, p.1 = P → p.2 = X.env.qual ++ "<lambda>") (hr : Room (k + 2) X.A) (L : LamS X.env.scope scope) (hdef : defaultsOf params X.env = ([], []))
    (hbind : ∀ (q : Str) (cl : List (Str × Addr)) (pm cv ctv : Value), bindArgs (PySem.W.kla_fn "<lambda>" q params body scope cl pm cv ctv) ⟨[], []⟩ = pure [])
    (hbody : ∀ (A : Around) (outer : List Env) (s : Shared) (H : Hp) (E : XK) (f c' : Addr), Room k (A.deeper (lamEnv X scope s.heap.objs.size f c')) → PE (lamCx X A outer s H E scope f c') body (t E))
    (hdb : (x == ("__debug__" : Str)) = false := by decide) (hd : (a == ("__debug__" : Str)) = false := by decide) (hcd : (a == ("__classdict__" : Str)) = false := by decide) :
    PE X (.Call (.Name x p) [.Lambda params body scope lpos] [] pos) (tLam T TT t) := by
  obtain ⟨oc, od, dV, kV, doc, pm, an, cdv, ct, osl, rfl, lk, hcd', _, _⟩ := F.ex
  exact pe_lamcall hg hm F.kp lk hcd' hb Sg hNg hva (hG cdv) TB hcode hmT hu hr L hdef hbind hbody hdb hd hcd
end
end Lp

set_option Elab.async false
set_option linter.all false
set_option maxRecDepth 100000
set_option maxHeartbeats 4000000
/-! L14: what a def is to keep, in one line; the lambdas' tables. Own work. -/
namespace Lp
open PySem PySem.Spec PyProof.Rows L2 LamX
abbrev eN : XK := fun _ _ _ => False
/-- n slots, m of them empty at first -/
def OkD (K : Fg) (T : Tbl) (E : XK) (F : FS) (n m : Nat) (t : TS) : Prop := ∀ ds P X, F ds P X → ds.length + m = n ∧ SW K T E X t (ds.map Ent.val ++ List.replicate m .emp) (fun _ => P (.val .non)) (fun r _ => P r) (fun _ => False) (fun _ => False)
def OkJ (K : Fg) (T : Tbl) (F : JS) (n m : Nat) (t : TS) : Prop := ∀ (E : XK) j ds P, F ds P → 1 + ds.length + m = n ∧ SW K T E noX t (.jar j :: (ds.map Ent.val ++ List.replicate m .emp)) (fun _ => P (.val .non)) (fun r _ => P r) (fun _ => False) (fun _ => False)
def OkJO (K : Fg) (T : Tbl) (F : JS) (n m : Nat) (t : TS) : Prop := ∀ (E : XK) j a b c ds P, F ds P → 0 ≤ b → b < 2147483647 → 1 + ds.length + m = n ∧ SW K T E noX t (.own j (intsD [a, b, c]) :: (ds.map Ent.val ++ List.replicate m .emp))
  (fun _ => False) (fun r Γ' => (∃ i, r = .val (.int i)) ∧ P r ∧ ∃ a' b' c', Γ'[0]? = some (.own j (intsD [a', b', c'])) ∧ 0 ≤ b' ∧ b' < 2147483647) (fun _ => False) (fun _ => False)
def OkO (K : Fg) (T : Tbl) (E : XK) (F : OS) (n m : Nat) (t : TS) : Prop := ∀ p ds es P X, F ds es P X → 1 + es.length + m = n ∧ SW K T E X t (.own p ds :: (es.map Ent.val ++ List.replicate m .emp))
  (fun Γ' => ∃ ds', Γ'[0]? = some (.own p ds') ∧ P (.val .non) ds') (fun r Γ' => ∃ ds', Γ'[0]? = some (.own p ds') ∧ P r ds') (fun _ => False) (fun _ => False)
section
variable {K : Fg} {T : Tbl} {E : XK} {H : Hp} {F : FS} {FJ : JS} {FO : OS} {Ns : List Str} {vs : List V} {m : Nat} {t : TS} {Q : VK}
theorem OkD.body (w : OkD K T E F Ns.length m t) (h : spD K T F vs H Q E) : t { nx := fun _ H' => Q .non H', rt := Q } (L2.start Ns vs) H := fn_D w h
theorem OkJ.body (w : OkJ K T FJ Ns.length m t) (h : spJ K T FJ vs H Q E) : t { nx := fun _ H' => Q .non H', rt := Q } (L2.start Ns vs) H := fn_J (w E) h
theorem OkJO.body (w : OkJO K T FJ Ns.length m t) (h : spJ K T FJ vs H Q E) : t { nx := fun _ H' => Q .non H', rt := Q } (L2.start Ns vs) H := fn_JO (w E) h
theorem OkO.body (w : OkO K T E FO Ns.length m t) (h : spO K T FO vs H Q E) : t { nx := fun _ H' => Q .non H', rt := Q } (L2.start Ns vs) H := fn_O w h
theorem OkD.len {n k : Nat} (w : OkD K T E F n m t) (h : spD K T F vs H Q E) (e : k + m = n := by decide) : vs.length = k := by
  obtain ⟨S0, ds, P, X, rl, _, _, f, _⟩ := h
  have := (w ds P X f).1
  rw [rl.len]; omega
theorem OkJ.len {n k : Nat} (w : OkJ K T FJ n m t) (h : spJ K T FJ vs H Q E) (e : k + m = n := by decide) : vs.length = k := by
  obtain ⟨S0, j, ws, ds, P, ev, rl, _, _, _, _, f, _⟩ := h
  have := (w E j ds P f).1
  rw [ev, List.length_cons, rl.len]; omega
theorem OkJO.len {n k : Nat} (w : OkJO K T FJ n m t) (h : spJ K T FJ vs H Q E) (e : k + m = n := by decide) : vs.length = k := by
  obtain ⟨S0, j, ws, ds, P, ev, rl, _, _, _, jo, f, _⟩ := h
  obtain ⟨a, b, c, _, h1, h2⟩ := jo
  have := (w E j a b c ds P f h1 h2).1
  rw [ev, List.length_cons, rl.len]; omega
theorem OkO.len {n k : Nat} (w : OkO K T E FO n m t) (h : spO K T FO vs H Q E) (e : k + m = n := by decide) : vs.length = k := by
  obtain ⟨S0, p, xs, ds, ws, es, P, X, ev, _, _, _, rl, _, _, f, _⟩ := h
  have := (w p ds es P X f).1
  rw [ev, List.length_cons, rl.len]; omega
end
/-! ### tables of the defs that hold a lambda -/
def tabsOf (tf : List He.Defn) (K : Fg) : Tbl := tf.map fun q => ((He.cT K q).2, (q.1 ++ ".<locals>.") ++ "<lambda>")
theorem tabs_in {tf : List He.Defn} {K : Fg} {q : He.Defn} (h : q ∈ tf) : ((He.cT K q).2, (q.1 ++ ".<locals>.") ++ "<lambda>") ∈ tabsOf tf K := List.mem_map.mpr ⟨q, h, rfl⟩
theorem nd_inj {α β : Type} {f : α → β} : ∀ {l : List α}, (l.map f).Nodup → ∀ {a b : α}, a ∈ l → b ∈ l → f a = f b → a = b
  | [], _, _, _, h, _, _ => nomatch h
  | x :: l, nd, a, b, ha, hb, e => by
    have nd' : (f x :: l.map f).Nodup := nd
    obtain ⟨n1, n2⟩ := List.nodup_cons.mp nd'
    rcases List.mem_cons.mp ha with ha | ha
    · rcases List.mem_cons.mp hb with hb | hb
      · rw [ha, hb]
      · exact (n1 (List.mem_map.mpr ⟨b, hb, by rw [← e, ha]⟩)).elim
    · rcases List.mem_cons.mp hb with hb | hb
      · exact (n1 (List.mem_map.mpr ⟨a, ha, by rw [e, hb]⟩)).elim
      · exact nd_inj n2 ha hb e
theorem tabs_hu {tf : List He.Defn} {K : Fg} {q : He.Defn} (nd : (tf.map fun q => (He.cT K q).2).Nodup) (h : q ∈ tf) : ∀ p ∈ tabsOf tf K, p.1 = (He.cT K q).2 → p.2 = (q.1 ++ ".<locals>.") ++ "<lambda>" := fun p hp e => by
  obtain ⟨r, hr, ep⟩ := List.mem_map.mp hp
  subst ep
  have : r = q := nd_inj nd hr h e
  rw [this]
end Lp

set_option Elab.async false
set_option linter.all false
set_option maxRecDepth 100000
set_option maxHeartbeats 4000000
/-! L15: a hook that looks at the statics too. Own work. -/
namespace Lp
open PySem PySem.Spec PyProof.Rows L2 LamX
/-- what is looked at: the globals, n steps far, and the statics -/
def seeY (n : Nat) (g : Addr → Option Obj) : List Addr := cStatics :: He.asD g n
abbrev fragY (n : Nat) (g : Addr → Option Obj) : Fg := He.frT g (seeY n g)
def obsY (n : Nat) (fa : List He.Fa) (fn : List He.DefD) (tf : List He.Defn) (ex : Fg → Bool) (g : Addr → Option Obj) : He.AlX :=
  (He.obsT fa fn [] (fragY n g), ex (fragY n g) && He.tabsB g tf (fragY n g))
theorem says_ofY {n : Nat} {fa : List He.Fa} {fn : List He.DefD} {tf : List He.Defn} {ex : Fg → Bool} {w : World} {h : Heap} (q : obsY n fa fn tf ex h.get? = He.valX fn [] w) : He.SaysX fa fn [] tf ex w h (fragY n h.get?) := by
  have both := ba2 (congrArg Prod.snd q)
  have each : ∀ p, p ∈ tf → PySem.W.codeHdIn (fragY n h.get?) (He.cT (fragY n h.get?) p).1 (He.cT (fragY n h.get?) p).2 = true ∧ ∃ o, h.get? (He.cT (fragY n h.get?) p).2 = some o ∧ He.emptyTab o = true := by
    intro p mem
    have two := ba2 (List.all_eq_true.mp both.2 p mem)
    refine ⟨two.1, ?_⟩
    have tab := two.2
    revert tab
    cases h.get? (He.cT (fragY n h.get?) p).2 with
    | none => intro z; cases z
    | some o => intro z; exact ⟨o, rfl, z⟩
  constructor
  · exact congrArg Prod.fst q
  · exact both.1
  · exact fun p mem => (each p mem).1
  · intro p mem
    obtain ⟨_, o, here, z⟩ := each p mem
    exact He.frT_none here z
  · intro p mem
    obtain ⟨_, o, here, z⟩ := each p mem
    rw [here, He.emptyTab_eq z]
def hookY (n : Nat) (fa : List He.Fa) (fn : List He.DefD) (tf : List He.Defn) (ex : Fg → Bool) : PySem.W.Hook where
  α := He.AlX
  obs := fun s => obsY n fa fn tf ex s.heap.get?
  val := fun w => He.valX fn [] w
  says := fun w h => ∃ K : Fg, K.In h ∧ He.SaysX fa fn [] tf ex w h K
  of := fun w s q => ⟨fragY n s.heap.get?, He.frT_in, says_ofY q⟩
  keeps := fun w h h' ⟨K, inH, c⟩ k => by
    refine ⟨K, PySem.W.Frag.In.keeps inH k, ?_⟩
    exact { t := c.t, more := c.more, hd := c.hd, out := c.out, empty := fun p mem => k _ _ (c.empty p mem) }
theorem hookY_obs {n : Nat} {fa : List He.Fa} {fn : List He.DefD} {tf : List He.Defn} {ex : Fg → Bool} {g : Addr → Option Obj} {s : Shared} (same : ∀ a, g a = s.heap.get? a) : obsY n fa fn tf ex g = (hookY n fa fn tf ex).obs s := by
  obtain rfl : g = s.heap.get? := funext same
  rfl
end Lp

set_option Elab.async false
set_option linter.all false
set_option maxRecDepth 100000
set_option maxHeartbeats 4000000
/-! L16: more ways of statements: what a call gives kept in a slot; what is told by a def that is handed a lambda; two new lists in a pair. Own work. -/
namespace Lp
open PySem PySem.Spec PyProof.Rows L2 LamX
section
variable {K : Fg} {T : Tbl} {E E' : XK} {X : XP} {S S' S0 J O O' : Ad} {H H1 H2 : Hp} {Γ Γ1 Γ' : List Ent} {σ σ' : L2.St}
variable {N N' : List Ent → Prop} {R : Rt → List Ent → Prop} {B C : List Ent → Prop} {ts tu : TS} {te ta tb : TE} {tt : TT} {tr : TA} {P : Dt → Prop} {A : List Dt → Prop} {ti : TI} {F : FS} {FJ : JS} {FO : OS}
theorem s_asgIf {g : TG} (h : ET K T E X tt Γ fun b => (b = true → SW K T E X (tAsg ta g) Γ N R B C) ∧ (b = false → SW K T E X (tAsg tb g) Γ N R B C)) : SW K T E X (tAsg (tIf tt ta tb) g) Γ N R B C := fun S0 J σ H r xo D n rt b c =>
  h S0 J σ H r xo.ex _ fun k H1 q r1 n1 => by
    have g1 := r.go n1
    cases k with
    | true =>
      show tAsg ta g D σ H1
      exact q.1 rfl S0 J σ H1 r1 (xo.nxs n1) D (fun Γ2 σ2 H2 a r2 g2 => n Γ2 σ2 H2 a r2 (g1.trans g2)) (fun rr v Γ2 σ2 H2 a r2 g2 z => rt rr v Γ2 σ2 H2 a r2 (g1.trans g2) (z.mono (Og.go g1)))
        (fun Γ2 σ2 H2 a r2 g2 => b Γ2 σ2 H2 a r2 (g1.trans g2)) (fun Γ2 σ2 H2 a r2 g2 => c Γ2 σ2 H2 a r2 (g1.trans g2))
    | false =>
      show tAsg tb g D σ H1
      exact q.2 rfl S0 J σ H1 r1 (xo.nxs n1) D (fun Γ2 σ2 H2 a r2 g2 => n Γ2 σ2 H2 a r2 (g1.trans g2)) (fun rr v Γ2 σ2 H2 a r2 g2 z => rt rr v Γ2 σ2 H2 a r2 (g1.trans g2) (z.mono (Og.go g1)))
        (fun Γ2 σ2 H2 a r2 g2 => b Γ2 σ2 H2 a r2 (g1.trans g2)) (fun Γ2 σ2 H2 a r2 g2 => c Γ2 σ2 H2 a r2 (g1.trans g2))
def isNon : Dt → Bool
  | .non => true
  | _ => false
/-- what a call gives, kept: data, or a new list -/
theorem s_asgC {i : Nat} (h : EA K T E X tr Γ fun ds => F ds (fun r => (∀ d, r = .val d → N (Γ.set i (.val d))) ∧ (∀ es, r = .new es → ∀ p, p ∉ owned Γ → N (Γ.set i (.own p es))) ∧ ∀ d es, r ≠ .pair d es) noX) :
    SW K T E X (tAsg (tCall (spD K T F) [] E' tr) (gName i)) Γ N R B C := fun S0 J σ H r xo D n rt b c =>
  h S0 J σ H r xo.ex _ fun vs ds H1 f r1 n1 rl => by
    rw [List.append_nil]
    refine ⟨Sx S0 Γ, ds, _, noX, rl, r1.live, r1.tb, f, fun v rr H2 ⟨q1, q2, q3⟩ n2 rv => ?_, .none⟩
    have n2J : Nx T J H1 H2 := n2.mono fun _ z => z.elim
    have r2 := r1.nx n2
    cases rr with
    | val d => exact n _ _ H2 (q1 d rfl) (r2.setV rv) ((r.go (n1.trans n2J)).trans .setV)
    | new es =>
      obtain ⟨p, xs, e, h1, h2, h3, h4⟩ := rv
      subst e
      exact n _ _ H2 (q2 es rfl p (r1.newNot h2)) (r2.newO (fun z => h1 (.inl z)) (r1.newNot h2) h3 h4 (r1.notNew h2 n2J)) (.newO (n1.trans n2J) (n1.dom _ h2))
    | pair d es => exact (q3 d es rfl).elim
/-- return x(lambda: f(..)) -/
theorem s_told {w : Str} {L : List HCl} {X' : XP} (h : ∀ E, EA K T E X' tr Γ fun ds => F ds (fun r => (∀ d, r = .val d → R (.val (.tup [.str w, d])) Γ) ∧ (∀ es, r = .new es → R (.pair (.str w) es) Γ) ∧ ∀ d es, r ≠ .pair d es) X')
    (hx : ∀ Cl fs, X' Cl fs → HX K (fun d => R (.val d) Γ) L Cl fs) (ow : owned Γ = []) : SW K T E X (tRet (tLam T (TTh K w L) fun E => tCall (spD K T F) [] E tr)) Γ N R B C := fun S0 J σ H r xo D n rt b c => by
  refine ⟨r.tb, fun H1 e tb => ?_⟩
  have n1 : ∀ {S : Ad}, Nx T S H H1 := fun {S} => .of_ext e tb
  have r1 := r.nx n1
  have sx0 : Sx S0 Γ = S0 := by
    funext a
    unfold Sx
    rw [ow]
    simp
  have fin : ∀ {H2 : Hp} {v : V} {d : Dt} {nm : Str}, Rel K T S0 J Γ σ H2 → Nx T J H H2 → Rep K (Sx S0 Γ) H2 v d → R (.val (.tup [.str nm, d])) Γ → ∀ p, H2 p = none → D.rt (.ref p) (upd H2 p (.tup [.str nm, v])) := fun {H2 v d nm} r2 n2 rv pp p hp => by
    have n3 : ∀ {S : Ad}, Nx T S H2 (upd H2 p (.tup [.str nm, v])) := fun {S} => .new hp noT_tup
    have rp := new_pair (w := nm) hp (r2.fresh (.of hp)) rv
    rw [sx0] at rp
    exact rt (.val (.tup [.str nm, d])) _ Γ σ _ pp (r2.nx n3) (r.go (n2.trans n3)) rp
  refine h (hCh K D.rt L) S0 J σ H1 r1 (fun Cl fs xs dx H2 x' n2 fd ed rf jz => ?_) _ fun vs ds H2 f r2 n2 rl => ?_
  · have r2 : Rel K T S0 J Γ σ H2 := r1.nxJJ n2 jz
    have n12 : Nx T J H H2 := n1.trans n2
    have go : ∀ L : List HCl, HX K (fun d => R (.val d) Γ) L Cl fs → hCh K D.rt L (.ref Cl) (some dx) H2 := fun L => by
      induction L with
      | nil => exact fun z => z.elim
      | cons c L ih =>
        obtain ⟨C', nm, fo⟩ := c
        intro hz
        obtain ⟨b, hb, hy, hn⟩ := hz
        refine ⟨b, hb, fun e => ?_, fun e => ih (hn e)⟩
        have hy := hy e
        cases fo with
        | some f =>
          obtain ⟨ec, d, hl, pp⟩ := hy
          obtain ⟨v, hv, rv⟩ := rf.lookup hl
          exact ⟨by rw [ec], dx, xs, v, rfl, ed, hv, fin r2 n12 (by rw [sx0]; exact rv) pp⟩
        | none => exact fin r2 n12 .non hy
    exact go L (hx Cl fs x')
  · rw [List.append_nil]
    refine ⟨Sx S0 Γ, ds, _, X', rl, r2.live, r2.tb, f, fun v rr H3 ⟨q1, q2, q3⟩ n3 rv => ⟨pair_size, ?_⟩, ?_⟩
    · have n3J : Nx T J H2 H3 := n3.mono fun _ z => z.elim
      have r3 := r2.nx n3
      have n13 := (n1.trans n2).trans n3J
      cases rr with
      | val d => exact fin r3 n13 rv (q1 d rfl)
      | new es =>
        obtain ⟨l, xs, e, h1, h2, h3, h4⟩ := rv
        subst e
        intro p hp
        have n4 : ∀ {S : Ad}, Nx T S H3 (upd H3 p (.tup [.str w, .ref l])) := fun {S} => .new hp noT_tup
        have hne : p ≠ l := fun z => by rw [z, h3] at hp; cases hp
        refine rt (.pair (.str w) es) _ Γ σ _ (q2 es rfl) (r3.nx n4) (r.go (n13.trans n4)) ⟨p, .str w, l, xs, rfl, ?_, upd_same, hne, ?_, .inr ((n1.trans n2).dom _ h2), by rw [upd_ne (Ne.symm hne)]; exact h3, .str w, ?_⟩
        · rw [← sx0]; exact r3.fresh (.of hp)
        · rw [← sx0]; exact h1
        · rw [← sx0]; exact h4.nx n4
      | pair d es => exact (q3 d es rfl).elim
    · intro Cl fs xs dx H3 x' n3 fd ed rf _
      have n3J : Nx T J H2 H3 := n3.mono fun _ z => z.elim
      have r3 : Rel K T S0 J Γ σ H3 := r2.nx n3
      have n13 : Nx T J H H3 := (n1.trans n2).trans n3J
      have go : ∀ L : List HCl, HX K (fun d => R (.val d) Γ) L Cl fs → hCh K D.rt L (.ref Cl) (some dx) H3 := fun L => by
        induction L with
        | nil => exact fun z => z.elim
        | cons c L ih =>
          obtain ⟨C', nm, fo⟩ := c
          intro hz
          obtain ⟨b, hb, hy, hn⟩ := hz
          refine ⟨b, hb, fun e => ?_, fun e => ih (hn e)⟩
          have hy := hy e
          cases fo with
          | some f =>
            obtain ⟨ec, d, hl, pp⟩ := hy
            obtain ⟨v, hv, rv⟩ := rf.lookup hl
            exact ⟨by rw [ec], dx, xs, v, rfl, ed, hv, fin r3 n13 rv pp⟩
          | none => exact fin r3 n13 .non hy
      exact go L (hx Cl fs x')
theorem x_isNB (ha : EB K T E X ta Γ fun x => P (.bl (isNon x))) : EX K T E X (tOp uIsN ta (tC .non)) Γ P := fun S0 J σ H r xo Q q =>
  ha S0 J σ H r xo _ fun v x H2 p r2 n2 rv => ⟨rfl, q _ _ H2 p r2 n2 (by
    rcases rv with rv | ⟨a, xs, ds, rfl, rfl, _⟩
    · cases rv <;> exact .bl _
    · exact .bl _)⟩
theorem x_notNB (ha : EB K T E X ta Γ fun x => P (.bl (!isNon x))) : EX K T E X (tOp uNotN ta (tC .non)) Γ P := fun S0 J σ H r xo Q q =>
  ha S0 J σ H r xo _ fun v x H2 p r2 n2 rv => ⟨rfl, q _ _ H2 p r2 n2 (by
    rcases rv with rv | ⟨a, xs, ds, rfl, rfl, _⟩
    · cases rv <;> exact .bl _
    · exact .bl _)⟩
/-- x, y = [..], [..] by way of a pair -/
theorem s_tupO {i j : Nat} (hij : i ≠ j) (h : EL K T E X ta Γ fun ds => EL K T E X tb Γ fun es => ∀ p q, p ∉ owned Γ → q ∉ owned Γ → p ≠ q → N ((Γ.set i (.own p ds)).set j (.own q es))) :
    SW K T E X (tAsg (tTup (tCons ta (tCons tb tNil))) (gTup K 2 (gCons (gName i) (gCons (gName j) gNil)))) Γ N R B C := fun S0 J σ H r xo D n rt b c => by
  have key := s_parO (i := i) (j := j) (N := N) (R := R) (B := B) (C := C) h
  -- the pair is laid besides
  refine h S0 J σ H r xo.ex _ fun p xs ds H2 h2 r2 n2 f2 e2 l2 => h2 (Rj S0 p) J σ H2 (r.avoid r2 f2 (fun z => z _ e2 noT_lst) n2) (xo.ex.nx n2).avoid _ fun q ys es H3 a r3 n3 f3 e3 l3 => ⟨pair_size, fun t ht => ?_⟩
  have n4 : ∀ {S : Ad}, Nx T S H3 (upd H3 t (.tup [.ref p, .ref q])) := fun {S} => .new ht noT_tup
  refine ⟨t, [.ref p, .ref q], rfl, .inl (.inl upd_same), rfl, .ref p, [.ref q], rfl, .ref q, [], rfl, rfl, ?_⟩
  have hqp : p ≠ q := fun z => by rw [z] at e2; exact f3 _ e2 noT_lst
  have s1 : S0 p → False := fun z => r.wf p z f2
  have n34 : Nx T J H2 (upd H3 t (.tup [.ref p, .ref q])) := n3.trans n4
  have e2' : upd H3 t (.tup [.ref p, .ref q]) p = some (.lst xs) := n34.le _ _ e2 noT_lst fun z => s1 (r.js _ z)
  have e3' : upd H3 t (.tup [.ref p, .ref q]) q = some (.lst ys) := (n4 (S := Non)).le _ _ e3 noT_lst id
  have l2' : RepL K (Rj (Sx S0 Γ) p) (upd H3 t (.tup [.ref p, .ref q])) xs ds := l2.nx (n34.mono fun b z => .inl (.inl (r.js b z)))
  have r3' := r3.nx n4
  have r2' := r2.newO (i := i) s1 (r.newNot f2) e2 l2 (r.notNew f2 n2)
  have r4 := (r3'.less (fun a z => .inl z) r.js).newO (i := i) s1 (r.newNot f2) e2' l2' (r.notNew f2 (n2.trans n34))
  have hq1 : q ∉ owned (Γ.set i (.own p ds)) := r2'.newNot f3
  have r5 := r4.newO (i := j) (fun z => r2.wf q z f3) hq1 e3' ((l3.nx n4).sub (.of fun b z => by
    rcases z with (z | z) | z
    · exact .inl (.inl (.inl z))
    · rcases owned_set Γ b z with q | q
      · exact .inl (.inr q)
      · exact .inl (.inl (.inr (List.mem_singleton.mp q)))
    · exact .inr z)) (r2'.notNew f3 n34)
  exact n _ _ _ (a p q (r.newNot f2) (r2.newNot f3) hqp) r5 ((Go.newO n2 f2).trans (.newO n34 f3))
/-- a list of the def's own is data while an expression is evaluated that gives no list -/
def scalD : Dt → Bool
  | .non => true
  | .bl _ => true
  | .int _ => true
  | .str _ => true
  | _ => false
theorem Rep.scal {v : V} {d : Dt} (h : scalD d = true) (r : Rep K S H v d) : Rep K S' H v d := by
  cases r <;> first | exact .non | exact .bl _ | exact .int _ | exact .str _ | cases h
theorem x_lend {i : Nat} {p : Addr} {ds : List Dt} (hp : Γ[i]? = some (.own p ds)) (h : EX K T E X te (Γ.set i (.val (.lst ds))) fun d => scalD d = true ∧ P d) : EX K T E X te Γ P := fun S0 J σ H r xo Q q =>
  h S0 J σ H (r.forget hp) xo Q fun v d H2 ⟨sc, pp⟩ r2 n2 rv => q v d H2 pp (r.nxJJ n2 r2.jr) n2 (rv.scal sc)
theorem t_lend {i : Nat} {p : Addr} {ds : List Dt} {G : Bool → Prop} (hp : Γ[i]? = some (.own p ds)) (h : ET K T E X tt (Γ.set i (.val (.lst ds))) G) : ET K T E X tt Γ G := fun S0 J σ H r xo Q q =>
  h S0 J σ H (r.forget hp) xo Q fun b H2 pp r2 n2 => q b H2 pp (r.nxJJ n2 r2.jr) n2
theorem x_dnew (p : P (.dct [])) : EX K T E X tDNewK Γ P := fun S0 J σ H r xo Q q => fun a ha => by
  have n3 : ∀ {S : Ad}, Nx T S H (upd H a (.dK [])) := fun {S} => .new ha noT_dK
  exact q _ _ _ p (r.nx n3) n3 (.dct (r.fresh (.of ha)) upd_same .nil)
/-- a new list is given out -/
theorem s_retL (h : EL K T E X te Γ fun ds => R (.new ds) Γ) : SW K T E X (tRet te) Γ N R B C := fun S0 J σ H r xo D n rt b c =>
  h S0 J σ H r xo.ex _ fun p xs ds H2 a r2 n2 h1 h2 rl => rt (.new ds) _ Γ σ H2 a r2 (r.go n2) ⟨p, xs, rfl, fun z => r.wf p z h1, .inr h1, h2, rl.sub (.of fun b z => by
    rcases z with z | z
    · exact .inl (.inl z)
    · exact .inr z)⟩
end
end Lp

set_option Elab.async false
set_option linter.all false
set_option maxRecDepth 100000
set_option maxHeartbeats 4000000
/-! L17: a list lent to a call that gives a list of plain values; a new list becomes the jar. Own work. -/
namespace Lp
open PySem PySem.Spec PyProof.Rows L2 LamX
section
variable {K : Fg} {T : Tbl} {E E' : XK} {X : XP} {S S' S0 J O O' : Ad} {H H1 H2 : Hp} {Γ Γ1 Γ' : List Ent} {σ σ' : L2.St}
variable {N N' : List Ent → Prop} {R : Rt → List Ent → Prop} {B C : List Ent → Prop} {ts tu : TS} {te ta tb : TE} {tt : TT} {tr : TA} {P : Dt → Prop} {A : List Dt → Prop} {ti : TI} {F : FS} {FJ : JS} {FO : OS}
theorem RepL.scal : ∀ {vs : List V} {ds : List Dt}, (∀ d ∈ ds, scalD d = true) → RepL K S H vs ds → RepL K S' H vs ds
  | _, _, _, .nil => .nil
  | _, _, h, .cons r t => .cons (r.scal (h _ (by simp))) (RepL.scal (fun d hd => h d (by simp [hd])) t)
theorem l_lend {i : Nat} {p : Addr} {ds : List Dt} (hp : Γ[i]? = some (.own p ds)) (h : EL K T E X te (Γ.set i (.val (.lst ds))) fun es => (∀ d ∈ es, scalD d = true) ∧ A es) : EL K T E X te Γ A := fun S0 J σ H r xo Q q =>
  h S0 J σ H (r.forget hp) xo Q fun l xs es H2 ⟨sc, pp⟩ r2 n2 f e rl => q l xs es H2 pp (r.nxJJ n2 r2.jr) n2 f e (rl.scal sc)
theorem owned_sub_nil {i : Nat} {e : Ent} (h : owned Γ = []) (he : ownA e = []) : owned (Γ.set i e) = [] := by
  apply List.eq_nil_iff_forall_not_mem.mpr
  intro a ha
  rcases owned_set Γ a ha with q | q
  · rw [h] at q; cases q
  · rw [he] at q; cases q
theorem s_jar {i : Nat} (ow : owned Γ = []) (h : EA K T E X tr Γ fun ds => F ds (fun r => ∃ a b c, r = .new (intsD [a, b, c]) ∧ 0 ≤ b ∧ b < 2147483647) noX)
    (q : ∀ p, SW K T E X tu (Γ.set i (.jar p)) (fun _ => False) (fun r _ => ∃ v, r = .val (.bl v) ∧ R r Γ) (fun _ => False) (fun _ => False)) : SW K T E X (tSeq (tAsg (tCall (spD K T F) [] E' tr) (gName i)) tu) Γ N R B C := fun S0 J σ H r xo D n rt b c => by
  refine h S0 J σ H r xo.ex _ fun vs ds H1 f r1 n1 rl => ?_
  rw [List.append_nil]
  refine ⟨Sx S0 Γ, ds, _, noX, rl, r1.live, r1.tb, f, fun v rr H2 ⟨a, b, c, e, hb1, hb2⟩ n2 rv => ?_, .none⟩
  subst e
  obtain ⟨p, xs, e, h1, h2, h3, h4⟩ := rv
  subst e
  rw [RepL.ints h4] at h3
  show tu D (σ.set i (some (.ref p))) H2
  have n2J : Nx T J H1 H2 := n2.mono fun _ z => z.elim
  have r2 := r1.nx n2
  have jo : JarOk H2 p := ⟨a, b, c, h3, hb1, hb2⟩
  have ow' : owned (Γ.set i (.jar p)) = [] := owned_sub_nil ow rfl
  have hpn : Fre H p := n1.dom _ h2
  have sxn : ∀ (S : Ad) (Γ0 : List Ent), owned Γ0 = [] → Sx S Γ0 = S := fun S Γ0 h0 => by
    funext a
    unfold Sx
    rw [h0]
    simp
  have rj : Rel K T (Rj S0 p) (Rj J p) (Γ.set i (.jar p)) (σ.set i (some (.ref p))) H2 := by
    refine ⟨fun a z => z.imp (r.js a) id, fun a z => ?_, fun a z => ?_, r2.tb, by rw [ow']; exact List.nodup_nil, by rw [ow']; exact fun _ z => (nomatch z), by rw [List.length_set, List.length_set]; exact r2.len, fun k o e g1 g2 => ?_⟩
    · rcases z with z | z
      · exact r2.jr a z
      · rw [z]; exact jo
    · rcases z with z | z
      · exact r2.wf a z
      · rw [z]; exact fun fr => fr _ h3 noT_lst
    · rw [sxn _ _ ow']
      by_cases hk : k = i
      · subst hk
        have hl := (List.getElem?_eq_some_iff.mp g2).1
        rw [List.length_set] at hl
        have hs : k < σ.length := by rw [r.len]; exact hl
        rw [List.getElem?_set_self hl] at g2
        rw [List.getElem?_set_self hs] at g1
        cases g1; cases g2
        exact ⟨rfl, .inr rfl⟩
      · rw [List.getElem?_set_ne (Ne.symm hk)] at g1 g2
        have z := r1.notNew h2 n2J k o e g1 g2
        rw [sxn _ _ ow] at z
        cases e with
        | emp => trivial
        | val d => exact z
        | own p ds => exact z
        | jar j => exact ⟨z.1, .inl z.2⟩
  have back : ∀ {H3 : Hp}, Nx T (Rj J p) H2 H3 → Nx T J H H3 := fun {H3} n3 => by
    have n12 := n1.trans n2J
    refine ⟨fun b o e no ns => ?_, fun b z => n12.dom b (n3.dom b z), fun t => n3.tab (n12.tab t)⟩
    refine n3.le b o (n12.le b o e no ns) no fun z => ?_
    rcases z with z | z
    · exact ns z
    · rw [z] at e; exact hpn o e no
  refine q p (Rj S0 p) (Rj J p) _ H2 rj (fun C fs ys dx H3 hX n3 fd ed rf jz => ?_) D (fun _ _ _ z => z.elim) (fun rr v Γ' σ' H' ⟨w, e, hr⟩ rl' g rv => ?_) (fun _ _ _ z => z.elim) (fun _ _ _ z => z.elim)
  · rw [sxn _ _ ow'] at n3
    have n13 := back n3
    exact xo C fs ys dx H3 hX (n13.mono fun _ z => .inl z) ((n1.trans n2J).dom _ fd) ed (rf.sub (.of Rj.sub)) fun a ha => jz a (.inl ha)
  · have n3 : Nx T (Rj J p) H2 H' := by
      have := g.nx
      rw [sxn _ _ ow'] at this
      exact this
    have n13 := back n3
    subst e
    cases (show Rep K _ H' v (.bl w) from rv)
    exact rt (.val (.bl w)) _ Γ σ H' hr (r.nxJJ n13 fun a ha => rl'.jr a (.inl ha)) (r.go n13) (.bl w)
end
end Lp

set_option Elab.async false
set_option linter.all false
set_option maxRecDepth 100000
set_option maxHeartbeats 4000000
/-! k68F: what each def is to keep. Own work. -/
namespace Lp.K68
open PySem PySem.Spec PyProof.Rows L2 LamX Lp
def letters : Str := "abcdefghijklmnopqrstuvwxyz"
def strOkB (s : Str) : Bool := (PyData.str s).canLay0
def okName (s : Str) : Prop := 1 ≤ s.length ∧ s.length ≤ 8 ∧ (∀ c ∈ s.cps.toList, c ∈ letters.cps.toList) ∧ strOkB s = true
abbrev Lt := Str × List Int
def ltD (x : Lt) : Dt := .tup [.str x.1, .tup (x.2.map .int)]
def okLt (x : Lt) : Prop := okName x.1 ∧ x.2.length ≤ 2 ∧ ∀ v ∈ x.2, 0 ≤ v ∧ v ≤ 2
def pairD (p : Str × Str) : Dt := .tup [.str p.1, .str p.2]
def ltS (a b : Str) : Prop := a.cps.toList < b.cps.toList
def ltPB (p q : Str × Str) : Bool := if p.1 = q.1 then decide (p.2.cps.toList < q.2.cps.toList) && !decide (p.2 = q.2) else decide (p.1.cps.toList < q.1.cps.toList)
def TiesOk (l : List (Str × Str)) : Prop := (∀ p ∈ l, okName p.1 ∧ okName p.2 ∧ ltS p.1 p.2) ∧ l.Pairwise (fun p q => ltPB p q = true) ∧ l.length ≤ 1000
def bndD (tl : List Dt) (a b : Str) : Bool := eqD (.str a) (.str b) || ((tl.any fun z => eqD z (pairD (a, b))) || (tl.any fun z => eqD z (pairD (b, a))))
def swapAt {α : Type} (l : List α) (k : Nat) (x y : α) : List α := (l.set k y).set (k + 1) x
def lwStep (tl : List Dt) (l : List Lt) (ix : Dt) : Option (List Lt) := match ix with
  | .int i => if 0 ≤ i ∧ i + 1 < l.length then (match l[i.toNat]?, l[i.toNat + 1]? with
    | some x, some y => if bndD tl x.1 y.1 = true then none else some (swapAt l i.toNat x y)
    | _, _ => none) else none
  | _ => none
def lwSwap (tl : List Dt) : List Dt → List Lt → Option (List Lt)
  | [], l => some l
  | ix :: r, l => (lwStep tl l ix).bind fun l' => lwSwap tl r l'
def resD : Option (List Lt) → Dt
  | none => .non
  | some l => .lst (l.map ltD)
def swOf (tl : List Dt) (l : List Lt) : Dt → Option (List Lt)
  | .lst ix => lwSwap tl ix l
  | .tup ix => lwSwap tl ix l
  | _ => none
def TyOk (d : Dt) : Prop := ∃ n, tyD d = some n
/-- d, its items too when it is a list or a tuple, have a built-in type; not too many -/
def IxOk (d : Dt) : Prop := TyOk d ∧ ∀ b ix, d = sqD b ix → (∀ x ∈ ix, TyOk x) ∧ ix.length ≤ 10000
def WordOk (l : List Lt) : Prop := (∀ x ∈ l, okLt x) ∧ l.length ≤ 1000
def intB : Dt → Bool
  | .int _ => true
  | _ => false
def btwB (d : Dt) (a b : Int) : Bool := match d with
  | .int i => decide (a ≤ i) && decide (i ≤ b)
  | _ => false
def pairsOf : List Str → List (Str × Str)
  | [] => []
  | x :: r => r.map (fun y => (x, y)) ++ pairsOf r
def GoodT (tl : List Dt) : Prop := ∃ l : List (Str × Str), tl = l.map pairD ∧ TiesOk l
mutual
/-- no list in it is long -/
def szB : Dt → Bool
  | .tup l => decide (l.length ≤ 100000) && szL l
  | .lst l => decide (l.length ≤ 100000) && szL l
  | _ => true
def szL : List Dt → Bool
  | [] => true
  | d :: l => szB d && szL l
end
/-! ### the library's defs -/
def F_is_integer (K : Fg) : FS := fun ds P X => ∃ d, ds = [d] ∧ TyOk d ∧ P (.val (.bl (intB d)))
def F_is_between (K : Fg) : FS := fun ds P X => ∃ d a b, ds = [d, .int a, .int b] ∧ TyOk d ∧ P (.val (.bl (btwB d a b)))
def F_is_value (K : Fg) : FS := fun ds P X => ∃ d, ds = [d] ∧ TyOk d ∧ P (.val (.bl (btwB d 0 2)))
def F_is_name (K : Fg) : FS := fun ds P X => ∃ s, ds = [.str s] ∧ okName s ∧ P (.val (.bl true))
def F_is_tie (K : Fg) : FS := fun ds P X => ∃ p, ds = [pairD p] ∧ okName p.1 ∧ okName p.2 ∧ ltS p.1 p.2 ∧ P (.val (.bl true))
def F_check_ties_among (K : Fg) : FS := fun ds P X => ∃ l : List (Str × Str), ds = [.tup (l.map pairD), .non] ∧ TiesOk l ∧ P (.val .non)
def F_check_ties (K : Fg) : FS := fun ds P X => ∃ l : List (Str × Str), ds = [.tup (l.map pairD)] ∧ TiesOk l ∧ P (.val .non)
def F_is_bound (K : Fg) : FS := fun ds P X => ∃ tl a b, ds = [.tup tl, .str a, .str b] ∧ GoodT tl ∧ strOkB a = true ∧ strOkB b = true ∧ P (.val (.bl (bndD tl a b)))
def F_is_letter (K : Fg) : FS := fun ds P X => ∃ x, ds = [ltD x] ∧ okLt x ∧ P (.val (.bl true))
def F_check_word (K : Fg) : FS := fun ds P X => ∃ b l, ds = [sqD b (l.map ltD)] ∧ WordOk l ∧ P (.val .non)
def F_check_words (K : Fg) : FS := fun ds P X => ∃ b l b' l' tl, ds = [sqD b (l.map ltD), sqD b' (l'.map ltD), .tup tl] ∧ WordOk l ∧ WordOk l' ∧ GoodT tl ∧ P (.val .non)
def F_exchange (K : Fg) : OS := fun ds es P X => ∃ (k : Nat) (x y : Dt), es = [.int (k : Nat)] ∧ ds[k]? = some x ∧ ds[k + 1]? = some y ∧ P (.val .non) (swapAt ds k x y)
def F_word_behind (K : Fg) : FS := fun ds P X => ∃ b l tl b' ix, ds = [sqD b (l.map ltD), .tup tl, sqD b' ix] ∧ WordOk l ∧ GoodT tl ∧ (∀ x ∈ ix, TyOk x) ∧ (lwSwap tl ix l = none → P (.val .non)) ∧ ∀ r, lwSwap tl ix l = some r → P (.new (r.map ltD))
def F_swapped (K : Fg) : FS := fun ds P X => ∃ b l tl d, ds = [sqD b (l.map ltD), .tup tl, d] ∧ WordOk l ∧ GoodT tl ∧ IxOk d ∧ (swOf tl l d = none → X (He.ga K "BadPart") [("part", .str "indexes")]) ∧ ∀ r, swOf tl l d = some r → P (.new (r.map ltD))
def jdB (tl : List Dt) (l l' : List Lt) : Dt → Bool
  | .lst ix => eqD (resD (lwSwap tl ix l)) (.lst (l'.map ltD))
  | _ => false
def F_are_swaps (K : Fg) : FS := fun ds P X => ∃ b l b' l' tl d, ds = [sqD b (l.map ltD), sqD b' (l'.map ltD), .tup tl, d] ∧ WordOk l ∧ WordOk l' ∧ GoodT tl ∧ IxOk d ∧ P (.val (.bl (jdB tl l l' d)))
/-! ### the law's -/
def F_law_lw_is_bound (K : Fg) : FS := F_is_bound K
def F_law_lw_pairs (K : Fg) : FS := fun ds P X => ∃ rs : List Str, ds = [.lst (rs.map .str)] ∧ rs.length ≤ 8 ∧ P (.new ((pairsOf rs).map pairD))
def F_law_lw_swapped (K : Fg) : FS := fun ds P X => ∃ l tl ix, ds = [.lst (l.map ltD), .tup tl, .lst ix] ∧ WordOk l ∧ GoodT tl ∧ (∀ x ∈ ix, TyOk x) ∧ P (.val (resD (lwSwap tl ix l)))
def F_law_lw_words_names (K : Fg) : JS := fun ds P => ∃ m : Nat, ds = [.int (m : Nat)] ∧ m ≤ 24 ∧ ∀ ys : List Str, ys.Nodup → ys.length = m → (∀ s ∈ ys, okName s) → P (.val (.lst (ys.map .str)))
def NamesOk (ns : List Str) : Prop := ns.Nodup ∧ (∀ s ∈ ns, okName s) ∧ 2 ≤ ns.length ∧ ns.length ≤ 8
def F_law_lw_ties (K : Fg) : JS := fun ds P => ∃ ns : List Str, ds = [.lst (ns.map .str)] ∧ NamesOk ns ∧ ∀ tl, GoodT tl → P (.val (.tup tl))
def F_law_lw_letter (K : Fg) : JS := fun ds P => ∃ ns : List Str, ds = [.lst (ns.map .str)] ∧ NamesOk ns ∧ ∀ x, okLt x → P (.val (ltD x))
def F_law_lw_word (K : Fg) : JS := fun ds P => ∃ (ns : List Str) (m : Nat), ds = [.lst (ns.map .str), .int (m : Nat)] ∧ NamesOk ns ∧ m ≤ 100 ∧ ∀ l : List Lt, l.length ≤ m → WordOk l → P (.val (.lst (l.map ltD)))
def F_law_lw_handed (K : Fg) : JS := fun ds P => ∃ xs, ds = [.lst xs] ∧ ∀ b, P (.val (sqD b xs))
def F_law_pool (K : Fg) : FS := fun ds P X => ∃ ns : List Int, ds = [.lst (ns.map .int)] ∧ ns.length ≤ 1000 ∧ (∀ n ∈ ns, Builtin.Int.intBits n ≤ 1048576) ∧ ∀ a b c, 0 ≤ b → b < 2147483647 → P (.new (intsD [a, b, c]))
def F_law_take (K : Fg) : JS := fun ds P => ∃ m : Int, ds = [.int m] ∧ 0 < m ∧ m < 2 ^ 62 ∧ ∀ i : Int, 0 ≤ i → i < m → P (.val (.int i))
def F_law_one (K : Fg) : JS := fun ds P => ∃ b xs, ds = [sqD b xs] ∧ xs ≠ [] ∧ xs.length ≤ 1000 ∧ ∀ x ∈ xs, P (.val x)
def F_law_mixed (K : Fg) : JS := fun ds P => ∃ xs, ds = [.lst xs] ∧ xs.length ≤ 1000 ∧ ∀ ys, ys.Perm xs → P (.new ys)
def F_law_yq_is_whole (K : Fg) : FS := F_is_integer K
def F_law_yq_same : Nat → Fg → FS
  | 0, _ => fun _ _ _ => False
  | n + 1, _ => fun ds P X => ∃ d, ds = [d, d] ∧ Okd d ∧ szB d = true ∧ (toPy d).depth ≤ n ∧ P (.val (.bl true))
def F_law_heard_swapped (K : Fg) : FS := fun ds P X => ∃ b l tl d, ds = [sqD b (l.map ltD), .tup tl, d] ∧ WordOk l ∧ GoodT tl ∧ IxOk d ∧ (swOf tl l d = none → P (.val (.tup [.str "BadPart", .str "indexes"]))) ∧ ∀ r, swOf tl l d = some r → P (.pair (.str "told") (r.map ltD))
def F_law_heard_judged (K : Fg) : FS := fun ds P X => ∃ b l b' l' tl d, ds = [sqD b (l.map ltD), sqD b' (l'.map ltD), .tup tl, d] ∧ WordOk l ∧ WordOk l' ∧ GoodT tl ∧ IxOk d ∧ P (.val (.tup [.str "told", .bl (jdB tl l l' d)]))
def F_law_walk (K : Fg) : JS := fun ds P => ∃ (l : List Lt) (tl : List Dt) (m : Nat), ds = [.lst (l.map ltD), .tup tl, .int (m : Nat)] ∧ WordOk l ∧ GoodT tl ∧ m ≤ 1000 ∧ ∀ (pl : List Int) (now : List Lt), lwSwap tl (pl.map .int) l = some now → pl.length ≤ m → P (.val (.tup [.lst (pl.map .int), .lst (now.map ltD)]))
def F_law_bent (K : Fg) : JS := fun ds P => ∃ (pl : List Int) (m : Nat), ds = [.lst (pl.map .int), .int (m : Nat)] ∧ m ≤ 1000 ∧ pl.length ≤ 1000 ∧ ∀ L : List (List Dt), (∀ ix ∈ L, (∀ x ∈ ix, TyOk x) ∧ ix.length ≤ 10000) → L.length ≤ 40 → P (.new (L.map .lst))
def F_law_world_right (K : Fg) : JS := fun ds P => ∃ (l : List Lt) (tl : List Dt), ds = [.lst (l.map ltD), .tup tl] ∧ WordOk l ∧ GoodT tl ∧ P (.val (.bl true))
def F_law_kept_right (K : Fg) : JS := fun ds P => ∃ (l : List Lt) (tl : List Dt) (pl : List Int) (now : List Lt), ds = [.lst (l.map ltD), .tup tl, .lst (pl.map .int), .lst (now.map ltD)] ∧ WordOk l ∧ GoodT tl ∧ pl.length ≤ 1000 ∧ lwSwap tl (pl.map .int) l = some now ∧ P (.val (.bl true))
def F_law (K : Fg) : FS := fun ds P X => ∃ ns : List Int, ds = [.lst (ns.map .int)] ∧ ns.length ≤ 1000 ∧ (∀ n ∈ ns, Builtin.Int.intBits n ≤ 1048576) ∧ P (.val (.bl true))
/-- what the def that is handed a lambda tells of which errors -/
def hL (K : Fg) : List HCl := [(He.ga K "BadPart", "BadPart", some "part"), (He.ga K "BadWord", "BadWord", some "index"), (He.ga K "StoreError", "another", none)]
end Lp.K68

set_option Elab.async false
set_option linter.all false
set_option maxRecDepth 100000
set_option maxHeartbeats 4000000
/-! k68T: the readings, printed by gen.py. -/
namespace Lp.K68
open PySem PySem.Spec PyProof.Rows L2 LamX Lp
def topS (i : Nat) : Stmt := PySem.Challenge.pw_looseties_k68_exchanges_judged_step_by_s.main.body.getD i (.Pass ⟨0, 0, 0, 0⟩)
def inClass (s : Stmt) (i : Nat) : Stmt := match s with
  | .ClassDef _ _ _ b _ _ _ _ _ _ _ => b.getD i (.Pass ⟨0, 0, 0, 0⟩)
  | _ => .Pass ⟨0, 0, 0, 0⟩
def tf : List He.Defn := [("_law_heard_swapped", none), ("_law_heard_judged", none)]
abbrev tabs (K : Fg) : Tbl := tabsOf tf K
abbrev st_BadPart___init : Stmt := (inClass (topS 2) 0)
def d_BadPart___init : He.DefD := ⟨("BadPart", some "__init__"), "__init__", "BadPart.__init__", defArgs st_BadPart___init, defBody st_BadPart___init, defScope st_BadPart___init, [], []⟩
def sp_BadPart___init (K : Fg) : Sp := spX (He.ga K "BadPart") "part"
def t_BadPart___init (K : Fg) (E : XK) : TS := (tSeq (tDrop (tVeI K (tCons (tVar 0) (tCons (tC (.str "the part does not fit")) tNil))))
    (tOst K "part" (tVar 0) (tVar 1)))
abbrev st_is_integer : Stmt := (topS 7)
def d_is_integer : He.DefD := ⟨("is_integer", none), "is_integer", "is_integer", defArgs st_is_integer, defBody st_is_integer, defScope st_is_integer, [], []⟩
def sp_is_integer (K : Fg) : Sp := spD K (tabs K) (F_is_integer K)
def t_is_integer (K : Fg) (E : XK) : TS := (tRet (tAndV (tCB (rIsi K) (tCons (tVar 0) (tCons (tC (.ty "int")) tNil))) (tNotV (tCB (rIsi K) (tCons (tVar 0) (tCons (tC (.ty "bool")) tNil))))))
abbrev st_is_between : Stmt := (topS 8)
def d_is_between : He.DefD := ⟨("is_between", none), "is_between", "is_between", defArgs st_is_between, defBody st_is_between, defScope st_is_between, [], []⟩
def sp_is_between (K : Fg) : Sp := spD K (tabs K) (F_is_between K)
def t_is_between (K : Fg) (E : XK) : TS := (tRet (tAndV (tCall (sp_is_integer K) [] eN (tCons (tVar 0) tNil)) (tChain uLe uLe (tVar 1) (tVar 0) (tVar 2))))
abbrev st_is_value : Stmt := (topS 9)
def d_is_value : He.DefD := ⟨("is_value", none), "is_value", "is_value", defArgs st_is_value, defBody st_is_value, defScope st_is_value, [], []⟩
def sp_is_value (K : Fg) : Sp := spD K (tabs K) (F_is_value K)
def t_is_value (K : Fg) (E : XK) : TS := (tRet (tCall (sp_is_between K) [] eN (tCons (tVar 0) (tCons (tC (.int 0)) (tCons (tC (.int 2)) tNil)))))
abbrev st_is_name : Stmt := (topS 10)
def d_is_name : He.DefD := ⟨("is_name", none), "is_name", "is_name", defArgs st_is_name, defBody st_is_name, defScope st_is_name, [], []⟩
def sp_is_name (K : Fg) : Sp := spD K (tabs K) (F_is_name K)
def t_is_name (K : Fg) (E : XK) : TS := (tRet (tAndV (tCB (rIsi K) (tCons (tVar 0) (tCons (tC (.ty "str")) tNil))) (tAndV (tChain uLe uLe (tC (.int 1)) (tCB (uLen K) (tCons (tVar 0) tNil)) (tC (.int 8))) (tCB (rAll K) (tCons (tLc (iU K (tVar 0)) (gName 1) tYes (tOp (vIn K) (tVar 1) (tC (.str "abcdefghijklmnopqrstuvwxyz"))) [1]) tNil)))))
abbrev st_BadTies___init : Stmt := (inClass (topS 12) 0)
def d_BadTies___init : He.DefD := ⟨("BadTies", some "__init__"), "__init__", "BadTies.__init__", defArgs st_BadTies___init, defBody st_BadTies___init, defScope st_BadTies___init, [], []⟩
def sp_BadTies___init (K : Fg) : Sp := spX (He.ga K "BadTies") "index"
def t_BadTies___init (K : Fg) (E : XK) : TS := (tSeq (tDrop (tVeI K (tCons (tVar 0) (tCons (tC (.str "the value is not ties")) tNil))))
    (tOst K "index" (tVar 0) (tVar 1)))
abbrev st_BadWord___init : Stmt := (inClass (topS 13) 0)
def d_BadWord___init : He.DefD := ⟨("BadWord", some "__init__"), "__init__", "BadWord.__init__", defArgs st_BadWord___init, defBody st_BadWord___init, defScope st_BadWord___init, [], []⟩
def sp_BadWord___init (K : Fg) : Sp := spX (He.ga K "BadWord") "index"
def t_BadWord___init (K : Fg) (E : XK) : TS := (tSeq (tDrop (tVeI K (tCons (tVar 0) (tCons (tC (.str "the value is not a word")) tNil))))
    (tOst K "index" (tVar 0) (tVar 1)))
abbrev st_is_tie : Stmt := (topS 15)
def d_is_tie : He.DefD := ⟨("is_tie", none), "is_tie", "is_tie", defArgs st_is_tie, defBody st_is_tie, defScope st_is_tie, [], []⟩
def sp_is_tie (K : Fg) : Sp := spD K (tabs K) (F_is_tie K)
def t_is_tie (K : Fg) (E : XK) : TS := (tSeq (tIfS (tOr (tNot (tB (tCB (rIsi K) (tCons (tVar 0) (tCons (tC (.ty "tuple")) tNil))))) (tTest (tOp (uNe K) (tCB (uLen K) (tCons (tVar 0) tNil)) (tC (.int 2))))) (tRet (tC (.bl false))) tNext)
    (tRet (tAndV (tCall (sp_is_name K) [] eN (tCons (tOp (rIx K) (tVar 0) (tC (.int 0))) tNil)) (tAndV (tCall (sp_is_name K) [] eN (tCons (tOp (rIx K) (tVar 0) (tC (.int 1))) tNil)) (tOp (vLt K) (tOp (rIx K) (tVar 0) (tC (.int 0))) (tOp (rIx K) (tVar 0) (tC (.int 1))))))))
abbrev st_check_ties_among : Stmt := (topS 16)
def d_check_ties_among : He.DefD := ⟨("check_ties_among", none), "check_ties_among", "check_ties_among", defArgs st_check_ties_among, defBody st_check_ties_among, defScope st_check_ties_among, [], []⟩
def sp_check_ties_among (K : Fg) : Sp := spD K (tabs K) (F_check_ties_among K)
def t_check_ties_among (K : Fg) (E : XK) : TS := (tSeq (tIfS (tNot (tB (tCB (rIsi K) (tCons (tVar 0) (tCons (tC (.ty "tuple")) tNil))))) (tRz (He.ga K "BadTies") (sp_BadTies___init K) E (tCons (tC .non) tNil)) tNext)
    (tSeq (tAsg (tC .non) (gName 2))
    (tFor (iEnumU K (tCons (tVar 0) tNil)) (gTup K 2 (gCons (gName 3) (gCons (gName 4) gNil))) (tSeq (tIfS (tOr (tNot (tB (tCall (sp_is_tie K) [] eN (tCons (tVar 4) tNil)))) (tAnd (tTest (tOp uNotN (tVar 2) (tC .non))) (tNot (tTest (tOp (vLt K) (tVar 2) (tVar 4)))))) (tRz (He.ga K "BadTies") (sp_BadTies___init K) E (tCons (tVar 3) tNil)) tNext)
    (tSeq (tIfS (tAnd (tTest (tOp uNotN (tVar 1) (tC .non))) (tOr (tTest (tOp (vNin K) (tOp (rIx K) (tVar 4) (tC (.int 0))) (tVar 1))) (tTest (tOp (vNin K) (tOp (rIx K) (tVar 4) (tC (.int 1))) (tVar 1))))) (tRz (He.ga K "BadTies") (sp_BadTies___init K) E (tCons (tVar 3) tNil)) tNext)
    (tAsg (tVar 4) (gName 2)))))))
abbrev st_check_ties : Stmt := (topS 17)
def d_check_ties : He.DefD := ⟨("check_ties", none), "check_ties", "check_ties", defArgs st_check_ties, defBody st_check_ties, defScope st_check_ties, [], []⟩
def sp_check_ties (K : Fg) : Sp := spD K (tabs K) (F_check_ties K)
def t_check_ties (K : Fg) (E : XK) : TS := (tDrop (tCall (sp_check_ties_among K) [] eN (tCons (tVar 0) (tCons (tC .non) tNil))))
abbrev st_is_bound : Stmt := (topS 18)
def d_is_bound : He.DefD := ⟨("is_bound", none), "is_bound", "is_bound", defArgs st_is_bound, defBody st_is_bound, defScope st_is_bound, [], []⟩
def sp_is_bound (K : Fg) : Sp := spD K (tabs K) (F_is_bound K)
def t_is_bound (K : Fg) (E : XK) : TS := (tRet (tOrV (tOp (uEq K) (tVar 1) (tVar 2)) (tOrV (tOp (vIn K) (tTup (tCons (tVar 1) (tCons (tVar 2) tNil))) (tVar 0)) (tOp (vIn K) (tTup (tCons (tVar 2) (tCons (tVar 1) tNil))) (tVar 0)))))
abbrev st_is_letter : Stmt := (topS 21)
def d_is_letter : He.DefD := ⟨("is_letter", none), "is_letter", "is_letter", defArgs st_is_letter, defBody st_is_letter, defScope st_is_letter, [], []⟩
def sp_is_letter (K : Fg) : Sp := spD K (tabs K) (F_is_letter K)
def t_is_letter (K : Fg) (E : XK) : TS := (tSeq (tIfS (tOr (tNot (tB (tCB (rIsi K) (tCons (tVar 0) (tCons (tC (.ty "tuple")) tNil))))) (tOr (tTest (tOp (uNe K) (tCB (uLen K) (tCons (tVar 0) tNil)) (tC (.int 2)))) (tNot (tB (tCall (sp_is_name K) [] eN (tCons (tOp (rIx K) (tVar 0) (tC (.int 0))) tNil)))))) (tRet (tC (.bl false))) tNext)
    (tSeq (tAsg (tOp (rIx K) (tVar 0) (tC (.int 1))) (gName 1))
    (tRet (tAndV (tCB (rIsi K) (tCons (tVar 1) (tCons (tC (.ty "tuple")) tNil))) (tAndV (tOp uLe (tCB (uLen K) (tCons (tVar 1) tNil)) (tC (.int 2))) (tCB (rAll K) (tCons (tLc (iU K (tVar 1)) (gName 2) tYes (tCall (sp_is_value K) [] eN (tCons (tVar 2) tNil)) [2]) tNil)))))))
abbrev st_check_word : Stmt := (topS 22)
def d_check_word : He.DefD := ⟨("check_word", none), "check_word", "check_word", defArgs st_check_word, defBody st_check_word, defScope st_check_word, [], []⟩
def sp_check_word (K : Fg) : Sp := spD K (tabs K) (F_check_word K)
def t_check_word (K : Fg) (E : XK) : TS := (tSeq (tIfS (tNot (tB (tCB (rIsiT K) (tCons (tVar 0) (tCons (tTup (tCons (tC (.ty "list")) (tCons (tC (.ty "tuple")) tNil))) tNil))))) (tRz (He.ga K "BadWord") (sp_BadWord___init K) E (tCons (tC .non) tNil)) tNext)
    (tFor (iEnumU K (tCons (tVar 0) tNil)) (gTup K 2 (gCons (gName 1) (gCons (gName 2) gNil))) (tIfS (tNot (tB (tCall (sp_is_letter K) [] eN (tCons (tVar 2) tNil)))) (tRz (He.ga K "BadWord") (sp_BadWord___init K) E (tCons (tVar 1) tNil)) tNext)))
abbrev st_check_words : Stmt := (topS 23)
def d_check_words : He.DefD := ⟨("check_words", none), "check_words", "check_words", defArgs st_check_words, defBody st_check_words, defScope st_check_words, [], []⟩
def sp_check_words (K : Fg) : Sp := spD K (tabs K) (F_check_words K)
def t_check_words (K : Fg) (E : XK) : TS := (tSeq (tDrop (tCall (sp_check_word K) [] eN (tCons (tVar 0) tNil)))
    (tSeq (tDrop (tCall (sp_check_word K) [] eN (tCons (tVar 1) tNil)))
    (tDrop (tCall (sp_check_ties K) [] eN (tCons (tVar 2) tNil)))))
abbrev st_exchange : Stmt := (topS 25)
def d_exchange : He.DefD := ⟨("exchange", none), "exchange", "exchange", defArgs st_exchange, defBody st_exchange, defScope st_exchange, [], []⟩
def sp_exchange (K : Fg) : Sp := spO K (tabs K) (F_exchange K)
def t_exchange (K : Fg) (E : XK) : TS := (tAsg (tTup (tCons (tOp (rIx K) (tVar 0) (tOp (uAdd K) (tVar 1) (tC (.int 1)))) (tCons (tOp (rIx K) (tVar 0) (tVar 1)) tNil))) (gTup K 2 (gCons (gSub (tVar 0) (tVar 1) rSetL) (gCons (gSub (tVar 0) (tOp (uAdd K) (tVar 1) (tC (.int 1))) rSetL) gNil))))
abbrev st_word_behind : Stmt := (topS 26)
def d_word_behind : He.DefD := ⟨("word_behind", none), "word_behind", "word_behind", defArgs st_word_behind, defBody st_word_behind, defScope st_word_behind, [], []⟩
def sp_word_behind (K : Fg) : Sp := spD K (tabs K) (F_word_behind K)
def t_word_behind (K : Fg) (E : XK) : TS := (tSeq (tAsg (tCB (uList K) (tCons (tVar 0) tNil)) (gName 3))
    (tSeq (tFor (iU K (tVar 2)) (gName 4) (tSeq (tIfS (tOr (tNot (tB (tCall (sp_is_between K) [] eN (tCons (tVar 4) (tCons (tC (.int 0)) (tCons (tOp uSub (tCB (uLen K) (tCons (tVar 3) tNil)) (tC (.int 2))) tNil)))))) (tB (tCall (sp_is_bound K) [] eN (tCons (tVar 1) (tCons (tOp (rIx K) (tOp (rIx K) (tVar 3) (tVar 4)) (tC (.int 0))) (tCons (tOp (rIx K) (tOp (rIx K) (tVar 3) (tOp (uAdd K) (tVar 4) (tC (.int 1)))) (tC (.int 0))) tNil)))))) (tRet (tC .non)) tNext)
    (tDrop (tCall (sp_exchange K) [] eN (tCons (tVar 3) (tCons (tVar 4) tNil))))))
    (tRet (tVar 3))))
abbrev st_swapped : Stmt := (topS 27)
def d_swapped : He.DefD := ⟨("swapped", none), "swapped", "swapped", defArgs st_swapped, defBody st_swapped, defScope st_swapped, [], []⟩
def sp_swapped (K : Fg) : Sp := spD K (tabs K) (F_swapped K)
def t_swapped (K : Fg) (E : XK) : TS := (tSeq (tDrop (tCall (sp_check_word K) [] eN (tCons (tVar 0) tNil)))
    (tSeq (tDrop (tCall (sp_check_ties K) [] eN (tCons (tVar 1) tNil)))
    (tSeq (tAsg (tIf (tB (tCB (rIsiT K) (tCons (tVar 2) (tCons (tTup (tCons (tC (.ty "list")) (tCons (tC (.ty "tuple")) tNil))) tNil)))) (tCall (sp_word_behind K) [] eN (tCons (tVar 0) (tCons (tVar 1) (tCons (tVar 2) tNil)))) (tC .non)) (gName 3))
    (tSeq (tIfS (tTest (tOp uIsN (tVar 3) (tC .non))) (tRz (He.ga K "BadPart") (sp_BadPart___init K) E (tCons (tC (.str "indexes")) tNil)) tNext)
    (tRet (tVar 3))))))
abbrev st_are_swaps : Stmt := (topS 28)
def d_are_swaps : He.DefD := ⟨("are_swaps", none), "are_swaps", "are_swaps", defArgs st_are_swaps, defBody st_are_swaps, defScope st_are_swaps, [], []⟩
def sp_are_swaps (K : Fg) : Sp := spD K (tabs K) (F_are_swaps K)
def t_are_swaps (K : Fg) (E : XK) : TS := (tSeq (tDrop (tCall (sp_check_words K) [] eN (tCons (tVar 0) (tCons (tVar 1) (tCons (tVar 2) tNil)))))
    (tRet (tAndV (tCB (rIsi K) (tCons (tVar 3) (tCons (tC (.ty "list")) tNil))) (tOp (uEq K) (tCall (sp_word_behind K) [] eN (tCons (tVar 0) (tCons (tVar 2) (tCons (tVar 3) tNil)))) (tCB (uList K) (tCons (tVar 1) tNil))))))
abbrev st_law_lw_is_bound : Stmt := (topS 30)
def d_law_lw_is_bound : He.DefD := ⟨("_law_lw_is_bound", none), "_law_lw_is_bound", "_law_lw_is_bound", defArgs st_law_lw_is_bound, defBody st_law_lw_is_bound, defScope st_law_lw_is_bound, [], []⟩
def sp_law_lw_is_bound (K : Fg) : Sp := spD K (tabs K) (F_law_lw_is_bound K)
def t_law_lw_is_bound (K : Fg) (E : XK) : TS := (tRet (tOrV (tOp (uEq K) (tVar 1) (tVar 2)) (tOrV (tOp (vIn K) (tTup (tCons (tVar 1) (tCons (tVar 2) tNil))) (tVar 0)) (tOp (vIn K) (tTup (tCons (tVar 2) (tCons (tVar 1) tNil))) (tVar 0)))))
abbrev st_law_lw_pairs : Stmt := (topS 31)
def d_law_lw_pairs : He.DefD := ⟨("_law_lw_pairs", none), "_law_lw_pairs", "_law_lw_pairs", defArgs st_law_lw_pairs, defBody st_law_lw_pairs, defScope st_law_lw_pairs, [], []⟩
def sp_law_lw_pairs (K : Fg) : Sp := spD K (tabs K) (F_law_lw_pairs K)
def t_law_lw_pairs (K : Fg) (E : XK) : TS := (tSeq (tAsg (tLst tNil) (gName 1))
    (tSeq (tFor (iRng1 (tCons (tCB (uLen K) (tCons (tVar 0) tNil)) tNil)) (gName 2) (tDrop (tBM K "list" rExtend (tVar 1) (tCons (tLc (iRng2 (tCons (tOp (uAdd K) (tVar 2) (tC (.int 1))) (tCons (tCB (uLen K) (tCons (tVar 0) tNil)) tNil))) (gName 3) tYes (tTup (tCons (tOp (rIx K) (tVar 0) (tVar 2)) (tCons (tOp (rIx K) (tVar 0) (tVar 3)) tNil))) [3]) tNil))))
    (tRet (tVar 1))))
abbrev st_law_lw_swapped : Stmt := (topS 32)
def d_law_lw_swapped : He.DefD := ⟨("_law_lw_swapped", none), "_law_lw_swapped", "_law_lw_swapped", defArgs st_law_lw_swapped, defBody st_law_lw_swapped, defScope st_law_lw_swapped, [], []⟩
def sp_law_lw_swapped (K : Fg) : Sp := spD K (tabs K) (F_law_lw_swapped K)
def t_law_lw_swapped (K : Fg) (E : XK) : TS := (tSeq (tAsg (tCB (uList K) (tCons (tVar 0) tNil)) (gName 3))
    (tSeq (tFor (iU K (tVar 2)) (gName 4) (tSeq (tIfS (tOr (tNot (tB (tCB (rIsi K) (tCons (tVar 4) (tCons (tC (.ty "int")) tNil))))) (tOr (tB (tCB (rIsi K) (tCons (tVar 4) (tCons (tC (.ty "bool")) tNil)))) (tNot (tTest (tChain uLe (vLt K) (tC (.int 0)) (tVar 4) (tOp uSub (tCB (uLen K) (tCons (tVar 3) tNil)) (tC (.int 1)))))))) (tRet (tC .non)) tNext)
    (tSeq (tIfS (tB (tCall (sp_law_lw_is_bound K) [] eN (tCons (tVar 1) (tCons (tOp (rIx K) (tOp (rIx K) (tVar 3) (tVar 4)) (tC (.int 0))) (tCons (tOp (rIx K) (tOp (rIx K) (tVar 3) (tOp (uAdd K) (tVar 4) (tC (.int 1)))) (tC (.int 0))) tNil))))) (tRet (tC .non)) tNext)
    (tAsg (tTup (tCons (tOp (rIx K) (tVar 3) (tOp (uAdd K) (tVar 4) (tC (.int 1)))) (tCons (tOp (rIx K) (tVar 3) (tVar 4)) tNil))) (gTup K 2 (gCons (gSub (tVar 3) (tVar 4) rSetL) (gCons (gSub (tVar 3) (tOp (uAdd K) (tVar 4) (tC (.int 1))) rSetL) gNil)))))))
    (tRet (tVar 3))))
abbrev st_law_take : Stmt := (topS 39)
def d_law_take : He.DefD := ⟨("_law_take", none), "_law_take", "_law_take", defArgs st_law_take, defBody st_law_take, defScope st_law_take, [], []⟩
def sp_law_take (K : Fg) : Sp := spJ K (tabs K) (F_law_take K)
def t_law_take (K : Fg) (E : XK) : TS := (tSeq (tIfS (tTest (tOp uGt (tOp (rIx K) (tVar 0) (tC (.int 0))) (tC (.int 0)))) (tSeq (tAsg (tOp uMod (tCB (uInt) (tCons (tOp (rIx K) (tVar 0) (tC (.int 0))) tNil)) (tVar 1)) (gName 2))
    (tSeq (tAsg (tOp uFdiv (tOp (rIx K) (tVar 0) (tC (.int 0))) (tVar 1)) (gSub (tVar 0) (tC (.int 0)) rSetL))
    (tRet (tVar 2)))) tNext)
    (tSeq (tAsg (tOp (uAdd K) (tOp (rIx K) (tVar 0) (tC (.int 2))) (tC (.int 1))) (gSub (tVar 0) (tC (.int 2)) rSetL))
    (tSeq (tAsg (tOp uMod (tCB (uInt) (tCons (tOp (uAdd K) (tOp (uAdd K) (tOp uMul (tOp (rIx K) (tVar 0) (tC (.int 1))) (tC (.int 39373))) (tOp uMul (tC (.int 7919)) (tOp (rIx K) (tVar 0) (tC (.int 2))))) (tC (.int 7))) tNil)) (tC (.int 2147483647))) (gSub (tVar 0) (tC (.int 1)) rSetL))
    (tRet (tOp uMod (tCB (uInt) (tCons (tOp uFdiv (tOp uMod (tCB (uInt) (tCons (tOp uMul (tOp (rIx K) (tVar 0) (tC (.int 1))) (tOp (rIx K) (tVar 0) (tC (.int 1)))) tNil)) (tC (.int 2147483629))) (tC (.int 32))) tNil)) (tVar 1))))))
abbrev st_law_mixed : Stmt := (topS 41)
def d_law_mixed : He.DefD := ⟨("_law_mixed", none), "_law_mixed", "_law_mixed", defArgs st_law_mixed, defBody st_law_mixed, defScope st_law_mixed, [], []⟩
def sp_law_mixed (K : Fg) : Sp := spJ K (tabs K) (F_law_mixed K)
def t_law_mixed (K : Fg) (E : XK) : TS := (tSeq (tPar 2 3 (tCons (tCB (uList K) (tCons (tVar 1) tNil)) (tCons (tLst tNil) tNil)))
    (tSeq (tFor (iRng1 (tCons (tCB (uLen K) (tCons (tVar 1) tNil)) tNil)) (gName 4) (tDrop (tBM K "list" rAppend (tVar 3) (tCons (tBM K "list" rPopAt (tVar 2) (tCons (tCall (sp_law_take K) [] eN (tCons (tVar 0) (tCons (tCB (uLen K) (tCons (tVar 2) tNil)) tNil))) tNil)) tNil))))
    (tRet (tVar 3))))
abbrev st_law_lw_words_names : Stmt := (topS 33)
def d_law_lw_words_names : He.DefD := ⟨("_law_lw_words_names", none), "_law_lw_words_names", "_law_lw_words_names", defArgs st_law_lw_words_names, defBody st_law_lw_words_names, defScope st_law_lw_words_names, [], []⟩
def sp_law_lw_words_names (K : Fg) : Sp := spJ K (tabs K) (F_law_lw_words_names K)
def t_law_lw_words_names (K : Fg) (E : XK) : TS := (tSeq (tAsg (tLst (tCons (tC (.str "a")) (tCons (tC (.str "aa")) (tCons (tC (.str "ab")) (tCons (tC (.str "abcdefgh")) (tCons (tC (.str "b")) (tCons (tC (.str "ba")) (tCons (tC (.str "c")) (tCons (tC (.str "cab")) (tCons (tC (.str "d")) (tCons (tC (.str "dd")) (tCons (tC (.str "f")) (tCons (tC (.str "g")) (tCons (tC (.str "h")) (tCons (tC (.str "hh")) (tCons (tC (.str "k")) (tCons (tC (.str "m")) (tCons (tC (.str "p")) tNil)))))))))))))))))) (gName 2))
    (tRet (tSl (uSl K) (tCall (sp_law_mixed K) [] eN (tCons (tVar 0) (tCons (tOp (uAdd K) (tVar 2) (tLst (tCons (tC (.str "q")) (tCons (tC (.str "abcdefgi")) (tCons (tC (.str "zzzzzzzz")) (tCons (tC (.str "zzzzzzzy")) (tCons (tC (.str "z")) (tCons (tC (.str "xy")) (tCons (tC (.str "yx")) tNil))))))))) tNil))) tNoPart (tPart (tVar 1)))))
abbrev st_law_lw_ties : Stmt := (topS 34)
def d_law_lw_ties : He.DefD := ⟨("_law_lw_ties", none), "_law_lw_ties", "_law_lw_ties", defArgs st_law_lw_ties, defBody st_law_lw_ties, defScope st_law_lw_ties, [], []⟩
def sp_law_lw_ties (K : Fg) : Sp := spJ K (tabs K) (F_law_lw_ties K)
def t_law_lw_ties (K : Fg) (E : XK) : TS := (tSeq (tAsg (tCB (rSortedS K) (tCons (tLc (iU K (tVar 1)) (gName 3) tYes (tCB uStr (tCons (tVar 3) tNil)) [3]) tNil)) (gName 2))
    (tSeq (tAsg (tCall (sp_law_lw_pairs K) [] eN (tCons (tVar 2) tNil)) (gName 4))
    (tSeq (tAsg (tTup (tCons (tCall (sp_law_mixed K) [] eN (tCons (tVar 0) (tCons (tVar 2) tNil))) (tCons (tCall (sp_law_take K) [] eN (tCons (tVar 0) (tCons (tC (.int 8)) tNil))) tNil))) (gTup K 2 (gCons (gName 5) (gCons (gName 6) gNil))))
    (tSeq (tIfS (tTest (tOp (uEq K) (tVar 6) (tC (.int 0)))) (tRet (tTup tNil)) tNext)
    (tSeq (tIfS (tTest (tOp (uEq K) (tVar 6) (tC (.int 1)))) (tRet (tCB (uTuple K) (tCons (tVar 4) tNil))) tNext)
    (tSeq (tIfS (tTest (tOp (uEq K) (tVar 6) (tC (.int 2)))) (tAsg (tLc (iRng1 (tCons (tOp uSub (tCB (uLen K) (tCons (tVar 5) tNil)) (tC (.int 1))) tNil)) (gName 8) tYes (tTup (tCons (tOp (rIx K) (tVar 5) (tVar 8)) (tCons (tOp (rIx K) (tVar 5) (tOp (uAdd K) (tVar 8) (tC (.int 1)))) tNil))) [8]) (gName 7)) (tIfS (tTest (tOp (uEq K) (tVar 6) (tC (.int 3)))) (tAsg (tIf (tTest (tOp uGt (tCB (uLen K) (tCons (tVar 5) tNil)) (tC (.int 2)))) (tLc (iRng1 (tCons (tCB (uLen K) (tCons (tVar 5) tNil)) tNil)) (gName 8) tYes (tTup (tCons (tOp (rIx K) (tVar 5) (tOp uSub (tVar 8) (tC (.int 1)))) (tCons (tOp (rIx K) (tVar 5) (tVar 8)) tNil))) [8]) (tVar 4)) (gName 7)) (tIfS (tTest (tOp (uEq K) (tVar 6) (tC (.int 4)))) (tAsg (tLc (iU K (tSl (uSl K) (tVar 5) (tPart (tC (.int 1))) tNoPart)) (gName 9) tYes (tTup (tCons (tOp (rIx K) (tVar 5) (tC (.int 0))) (tCons (tVar 9) tNil))) [9]) (gName 7)) (tIfS (tTest (tOp (uEq K) (tVar 6) (tC (.int 5)))) (tSeq (tAsg (tSl (uSl K) (tVar 5) tNoPart (tPart (tOp uFdiv (tCB (uLen K) (tCons (tVar 5) tNil)) (tC (.int 2))))) (gName 10))
    (tAsg (tLc (iU K (tVar 4)) (gTup K 2 (gCons (gName 11) (gCons (gName 9) gNil))) (tTest (tOp (uEq K) (tOp (vIn K) (tVar 11) (tVar 10)) (tOp (vIn K) (tVar 9) (tVar 10)))) (tTup (tCons (tVar 11) (tCons (tVar 9) tNil))) [11, 9]) (gName 7))) (tAsg (tLc (iU K (tVar 4)) (gName 12) (tTest (tOp (uEq K) (tCall (sp_law_take K) [] eN (tCons (tVar 0) (tCons (tIf (tTest (tOp (uEq K) (tVar 6) (tC (.int 6)))) (tC (.int 2)) (tC (.int 4))) tNil))) (tC (.int 0)))) (tVar 12) [12]) (gName 7))))))
    (tRet (tCB (uTuple K) (tCons (tLc (iU K (tVar 4)) (gName 12) (tOr (tTest (tOp (vIn K) (tVar 12) (tVar 7))) (tTest (tOp (vIn K) (tTup (tCons (tOp (rIx K) (tVar 12) (tC (.int 1))) (tCons (tOp (rIx K) (tVar 12) (tC (.int 0))) tNil))) (tVar 7)))) (tVar 12) [12]) tNil)))))))))
abbrev st_law_one : Stmt := (topS 40)
def d_law_one : He.DefD := ⟨("_law_one", none), "_law_one", "_law_one", defArgs st_law_one, defBody st_law_one, defScope st_law_one, [], []⟩
def sp_law_one (K : Fg) : Sp := spJ K (tabs K) (F_law_one K)
def t_law_one (K : Fg) (E : XK) : TS := (tRet (tOp (rIx K) (tVar 1) (tCall (sp_law_take K) [] eN (tCons (tVar 0) (tCons (tCB (uLen K) (tCons (tVar 1) tNil)) tNil)))))
abbrev st_law_lw_letter : Stmt := (topS 35)
def d_law_lw_letter : He.DefD := ⟨("_law_lw_letter", none), "_law_lw_letter", "_law_lw_letter", defArgs st_law_lw_letter, defBody st_law_lw_letter, defScope st_law_lw_letter, [], []⟩
def sp_law_lw_letter (K : Fg) : Sp := spJ K (tabs K) (F_law_lw_letter K)
def t_law_lw_letter (K : Fg) (E : XK) : TS := (tSeq (tAsg (tCall (sp_law_one K) [] eN (tCons (tVar 0) (tCons (tLst (tCons (tTup tNil) (tCons (tTup tNil) (tCons (tTup (tCons (tC (.int 0)) tNil)) (tCons (tTup (tCons (tC (.int 1)) tNil)) (tCons (tTup (tCons (tCall (sp_law_take K) [] eN (tCons (tVar 0) (tCons (tC (.int 3)) tNil))) tNil)) (tCons (tTup (tCons (tCall (sp_law_take K) [] eN (tCons (tVar 0) (tCons (tC (.int 3)) tNil))) (tCons (tCall (sp_law_take K) [] eN (tCons (tVar 0) (tCons (tC (.int 3)) tNil))) tNil))) tNil))))))) tNil))) (gName 2))
    (tRet (tTup (tCons (tCall (sp_law_one K) [] eN (tCons (tVar 0) (tCons (tVar 1) tNil))) (tCons (tVar 2) tNil)))))
abbrev st_law_lw_word : Stmt := (topS 36)
def d_law_lw_word : He.DefD := ⟨("_law_lw_word", none), "_law_lw_word", "_law_lw_word", defArgs st_law_lw_word, defBody st_law_lw_word, defScope st_law_lw_word, [], []⟩
def sp_law_lw_word (K : Fg) : Sp := spJ K (tabs K) (F_law_lw_word K)
def t_law_lw_word (K : Fg) (E : XK) : TS := (tRet (tLc (iRng1 (tCons (tVar 2) tNil)) (gName 3) tYes (tCall (sp_law_lw_letter K) [] eN (tCons (tVar 0) (tCons (tVar 1) tNil))) [3]))
abbrev st_law_lw_handed : Stmt := (topS 37)
def d_law_lw_handed : He.DefD := ⟨("_law_lw_handed", none), "_law_lw_handed", "_law_lw_handed", defArgs st_law_lw_handed, defBody st_law_lw_handed, defScope st_law_lw_handed, [], []⟩
def sp_law_lw_handed (K : Fg) : Sp := spJ K (tabs K) (F_law_lw_handed K)
def t_law_lw_handed (K : Fg) (E : XK) : TS := (tRet (tCall (sp_law_one K) [] eN (tCons (tVar 0) (tCons (tLst (tCons (tCB (uList K) (tCons (tVar 1) tNil)) (tCons (tCB (uTuple K) (tCons (tVar 1) tNil)) tNil))) tNil))))
abbrev st_law_pool : Stmt := (topS 38)
def d_law_pool : He.DefD := ⟨("_law_pool", none), "_law_pool", "_law_pool", defArgs st_law_pool, defBody st_law_pool, defScope st_law_pool, [], []⟩
def sp_law_pool (K : Fg) : Sp := spD K (tabs K) (F_law_pool K)
def t_law_pool (K : Fg) (E : XK) : TS := (tSeq (tAsg (tTup (tCons (tC (.int 0)) (tCons (tC (.int 7)) tNil))) (gTup K 2 (gCons (gName 1) (gCons (gName 2) gNil))))
    (tSeq (tFor (iRng1 (tCons (tCB (uLen K) (tCons (tVar 0) tNil)) tNil)) (gName 3) (tSeq (tAsg (tCB uMax2 (tCons (tCB (uInt) (tCons (tOp (rIx K) (tVar 0) (tVar 3)) tNil)) (tCons (tCB (uInt) (tCons (tOp uSub (tUn (rU fun i => .int (-i)) (tC (.int 1))) (tOp (rIx K) (tVar 0) (tVar 3))) tNil)) tNil))) (gName 4))
    (tSeq (tAsg (tOp uMod (tCB (uInt) (tCons (tOp (uAdd K) (tOp (uAdd K) (tOp uMul (tVar 2) (tC (.int 48271))) (tOp uMod (tVar 4) (tC (.int 2147483629)))) (tC (.int 11))) tNil)) (tC (.int 2147483647))) (gName 2))
    (tAsg (tIf (tAnd (tTest (tOp uGe (tVar 4) (tOp uPow (tC (.int 10)) (tC (.int 12))))) (tTest (tOp (vLt K) (tVar 1) (tOp uPow (tC (.int 10)) (tC (.int 60)))))) (tCB (uInt) (tCons (tOp (uAdd K) (tOp uMul (tVar 1) (tOp uPow (tC (.int 10)) (tC (.int 60)))) (tOp uMod (tVar 4) (tOp uPow (tC (.int 10)) (tC (.int 60))))) tNil)) (tVar 1)) (gName 1)))))
    (tRet (tLst (tCons (tVar 1) (tCons (tVar 2) (tCons (tC (.int 0)) tNil)))))))
abbrev st_law_yq_is_whole : Stmt := (topS 42)
def d_law_yq_is_whole : He.DefD := ⟨("_law_yq_is_whole", none), "_law_yq_is_whole", "_law_yq_is_whole", defArgs st_law_yq_is_whole, defBody st_law_yq_is_whole, defScope st_law_yq_is_whole, [], []⟩
def sp_law_yq_is_whole (K : Fg) : Sp := spD K (tabs K) (F_law_yq_is_whole K)
def t_law_yq_is_whole (K : Fg) (E : XK) : TS := (tRet (tAndV (tCB (rIsi K) (tCons (tVar 0) (tCons (tC (.ty "int")) tNil))) (tNotV (tCB (rIsi K) (tCons (tVar 0) (tCons (tC (.ty "bool")) tNil))))))
abbrev st_law_yq_same : Stmt := (topS 43)
def d_law_yq_same : He.DefD := ⟨("_law_yq_same", none), "_law_yq_same", "_law_yq_same", defArgs st_law_yq_same, defBody st_law_yq_same, defScope st_law_yq_same, [], []⟩
def sp_law_yq_same (n : Nat) (K : Fg) : Sp := spD K (tabs K) (F_law_yq_same n K)
def t_law_yq_same (n : Nat) (K : Fg) (E : XK) : TS := (tSeq (tIfS (tTest (tOp uIsN (tVar 1) (tC .non))) (tRet (tOp uIsN (tVar 0) (tC .non))) tNext)
    (tSeq (tIfS (tB (tCB (rIsi K) (tCons (tVar 1) (tCons (tC (.ty "bool")) tNil)))) (tRet (tIf (tB (tVar 1)) (tOp rIsB (tVar 0) (tC (.bl true))) (tOp rIsB (tVar 0) (tC (.bl false))))) tNext)
    (tSeq (tIfS (tB (tCB (rIsi K) (tCons (tVar 1) (tCons (tC (.ty "int")) tNil)))) (tRet (tAndV (tCall (sp_law_yq_is_whole K) [] eN (tCons (tVar 0) tNil)) (tOp (uEq K) (tVar 0) (tVar 1)))) tNext)
    (tSeq (tIfS (tB (tCB (rIsi K) (tCons (tVar 1) (tCons (tC (.ty "str")) tNil)))) (tRet (tAndV (tCB (rIsi K) (tCons (tVar 0) (tCons (tC (.ty "str")) tNil))) (tOp (uEq K) (tVar 0) (tVar 1)))) tNext)
    (tSeq (tIfS (tAnd (tNot (tB (tCB (rIsi K) (tCons (tVar 1) (tCons (tC (.ty "tuple")) tNil))))) (tNot (tB (tCB (rIsi K) (tCons (tVar 1) (tCons (tC (.ty "list")) tNil)))))) (tRet (tCB (uBool) (tCons (tOp (uEq K) (tVar 0) (tVar 1)) tNil))) tNext)
    (tSeq (tIfS (tTest (tOp (uNe K) (tCB (rIsi K) (tCons (tVar 1) (tCons (tC (.ty "tuple")) tNil))) (tCB (rIsi K) (tCons (tVar 0) (tCons (tC (.ty "tuple")) tNil))))) (tRet (tC (.bl false))) tNext)
    (tSeq (tIfS (tTest (tOp (uNe K) (tCB (rIsi K) (tCons (tVar 1) (tCons (tC (.ty "list")) tNil))) (tCB (rIsi K) (tCons (tVar 0) (tCons (tC (.ty "list")) tNil))))) (tRet (tC (.bl false))) tNext)
    (tSeq (tIfS (tTest (tOp (uNe K) (tCB (uLen K) (tCons (tVar 0) tNil)) (tCB (uLen K) (tCons (tVar 1) tNil)))) (tRet (tC (.bl false))) tNext)
    (tSeq (tFor (iRng1 (tCons (tCB (uLen K) (tCons (tVar 1) tNil)) tNil)) (gName 2) (tIfS (tNot (tB (tCall (sp_law_yq_same n K) [] eN (tCons (tOp (rIx K) (tVar 0) (tVar 2)) (tCons (tOp (rIx K) (tVar 1) (tVar 2)) tNil))))) (tRet (tC (.bl false))) tNext))
    (tRet (tC (.bl true))))))))))))
abbrev st_law_ear : Stmt := (topS 44)
def d_law_ear : He.DefD := ⟨("_law_ear", none), "_law_ear", "_law_ear", defArgs st_law_ear, defBody st_law_ear, defScope st_law_ear, [], []⟩
abbrev st_law_heard_swapped : Stmt := (topS 45)
def d_law_heard_swapped : He.DefD := ⟨("_law_heard_swapped", none), "_law_heard_swapped", "_law_heard_swapped", defArgs st_law_heard_swapped, defBody st_law_heard_swapped, defScope st_law_heard_swapped, [], []⟩
def sp_law_heard_swapped (K : Fg) : Sp := spD K (tabs K) (F_law_heard_swapped K)
def t_law_heard_swapped (K : Fg) (E : XK) : TS := (tRet (tLam (tabs K) (TTh K "told" (hL K)) fun E => (tCall (sp_swapped K) [] E (tCons (tVar 0) (tCons (tVar 1) (tCons (tVar 2) tNil))))))
abbrev st_law_heard_judged : Stmt := (topS 46)
def d_law_heard_judged : He.DefD := ⟨("_law_heard_judged", none), "_law_heard_judged", "_law_heard_judged", defArgs st_law_heard_judged, defBody st_law_heard_judged, defScope st_law_heard_judged, [], []⟩
def sp_law_heard_judged (K : Fg) : Sp := spD K (tabs K) (F_law_heard_judged K)
def t_law_heard_judged (K : Fg) (E : XK) : TS := (tRet (tLam (tabs K) (TTh K "told" (hL K)) fun E => (tCall (sp_are_swaps K) [] eN (tCons (tVar 0) (tCons (tVar 1) (tCons (tVar 2) (tCons (tVar 3) tNil)))))))
abbrev st_law_walk : Stmt := (topS 47)
def d_law_walk : He.DefD := ⟨("_law_walk", none), "_law_walk", "_law_walk", defArgs st_law_walk, defBody st_law_walk, defScope st_law_walk, [], []⟩
def sp_law_walk (K : Fg) : Sp := spJ K (tabs K) (F_law_walk K)
def t_law_walk (K : Fg) (E : XK) : TS := (tSeq (tAsg (tTup (tCons (tLst tNil) (tCons (tCB (uList K) (tCons (tVar 1) tNil)) tNil))) (gTup K 2 (gCons (gName 4) (gCons (gName 5) gNil))))
    (tSeq (tFor (iRng1 (tCons (tVar 3) tNil)) (gName 6) (tSeq (tAsg (tLc (iRng1 (tCons (tOp uSub (tCB (uLen K) (tCons (tVar 5) tNil)) (tC (.int 1))) tNil)) (gName 8) (tNot (tB (tCall (sp_law_lw_is_bound K) [] eN (tCons (tVar 2) (tCons (tOp (rIx K) (tOp (rIx K) (tVar 5) (tVar 8)) (tC (.int 0))) (tCons (tOp (rIx K) (tOp (rIx K) (tVar 5) (tOp (uAdd K) (tVar 8) (tC (.int 1)))) (tC (.int 0))) tNil)))))) (tVar 8) [8]) (gName 7))
    (tIfS (tTest (tOp (uNe K) (tVar 7) (tLst tNil))) (tSeq (tAsg (tIf (tAnd (tTest (tOp (uNe K) (tVar 4) (tLst tNil))) (tTest (tOp (uEq K) (tCall (sp_law_take K) [] eN (tCons (tVar 0) (tCons (tC (.int 4)) tNil))) (tC (.int 0))))) (tOp (rIx K) (tVar 4) (tUn (rU fun i => .int (-i)) (tC (.int 1)))) (tCall (sp_law_one K) [] eN (tCons (tVar 0) (tCons (tVar 7) tNil)))) (gName 8))
    (tSeq (tAsg (tTup (tCons (tOp (rIx K) (tVar 5) (tOp (uAdd K) (tVar 8) (tC (.int 1)))) (tCons (tOp (rIx K) (tVar 5) (tVar 8)) tNil))) (gTup K 2 (gCons (gSub (tVar 5) (tVar 8) rSetL) (gCons (gSub (tVar 5) (tOp (uAdd K) (tVar 8) (tC (.int 1))) rSetL) gNil))))
    (tDrop (tBM K "list" rAppend (tVar 4) (tCons (tVar 8) tNil))))) tNext)))
    (tRet (tTup (tCons (tVar 4) (tCons (tVar 5) tNil))))))
abbrev st_law_bent : Stmt := (topS 48)
def d_law_bent : He.DefD := ⟨("_law_bent", none), "_law_bent", "_law_bent", defArgs st_law_bent, defBody st_law_bent, defScope st_law_bent, [], []⟩
def sp_law_bent (K : Fg) : Sp := spJ K (tabs K) (F_law_bent K)
def t_law_bent (K : Fg) (E : XK) : TS := (tSeq (tAsg (tCall (sp_law_take K) [] eN (tCons (tVar 0) (tCons (tOp (uAdd K) (tCB (uLen K) (tCons (tVar 1) tNil)) (tC (.int 1))) tNil))) (gName 3))
    (tSeq (tAsg (tCB (uList K) (tCons (tVar 1) tNil)) (gName 4))
    (tSeq (tAsg (tLst (tCons (tUn (rU fun i => .int (-i)) (tC (.int 1))) (tCons (tOp uSub (tVar 2) (tC (.int 1))) (tCons (tVar 2) (tCons (tC (.bl true)) (tCons (tC (.bl false)) (tCons (tC .non) (tCons (tC (.str "0")) (tCons (tTup (tCons (tC (.int 0)) tNil)) (tCons (tLst (tCons (tC (.int 0)) tNil)) (tCons (tOp uPow (tC (.int 10)) (tC (.int 20))) (tCons (tCall (sp_law_take K) [] eN (tCons (tVar 0) (tCons (tCB uMax2 (tCons (tC (.int 1)) (tCons (tVar 2) tNil))) tNil))) tNil)))))))))))) (gName 5))
    (tSeq (tAsg (tLc (iU K (tVar 5)) (gName 7) tYes (tOp (uAdd K) (tOp (uAdd K) (tSl (uSl K) (tVar 4) tNoPart (tPart (tVar 3))) (tLst (tCons (tVar 7) tNil))) (tSl (uSl K) (tVar 4) (tPart (tVar 3)) tNoPart)) [7]) (gName 6))
    (tSeq (tDrop (tBM K "list" rExtend (tVar 6) (tCons (tLc (iU K (tVar 5)) (gName 7) tYes (tOp (uAdd K) (tOp (uAdd K) (tSl (uSl K) (tVar 4) tNoPart (tPart (tVar 3))) (tLst (tCons (tVar 7) tNil))) (tSl (uSl K) (tVar 4) (tPart (tOp (uAdd K) (tVar 3) (tC (.int 1)))) tNoPart)) [7]) tNil)))
    (tSeq (tDrop (tBM K "list" rExtend (tVar 6) (tCons (tLst (tCons (tOp (uAdd K) (tSl (uSl K) (tVar 4) tNoPart (tPart (tVar 3))) (tSl (uSl K) (tVar 4) (tPart (tOp (uAdd K) (tVar 3) (tC (.int 1)))) tNoPart)) (tCons (tRevL K (tVar 4)) (tCons (tCall (sp_law_mixed K) [] eN (tCons (tVar 0) (tCons (tVar 4) tNil))) (tCons (tOp (uAdd K) (tVar 4) (tVar 4)) (tCons (tSl (uSl K) (tVar 4) tNoPart (tPart (tVar 3))) tNil)))))) tNil)))
    (tSeq (tDrop (tBM K "list" rExtend (tVar 6) (tCons (tLst (tCons (tOp (uAdd K) (tOp (uAdd K) (tSl (uSl K) (tVar 4) tNoPart (tPart (tVar 3))) (tOp uMul (tSl (uSl K) (tVar 4) (tPart (tVar 3)) (tPart (tOp (uAdd K) (tVar 3) (tC (.int 1))))) (tC (.int 3)))) (tSl (uSl K) (tVar 4) (tPart (tOp (uAdd K) (tVar 3) (tC (.int 1)))) tNoPart)) (tCons (tOp (uAdd K) (tOp (uAdd K) (tSl (uSl K) (tVar 4) tNoPart (tPart (tVar 3))) (tOp uMul (tSl (uSl K) (tVar 4) (tPart (tVar 3)) (tPart (tOp (uAdd K) (tVar 3) (tC (.int 1))))) (tC (.int 2)))) (tSl (uSl K) (tVar 4) (tPart (tOp (uAdd K) (tVar 3) (tC (.int 1)))) tNoPart)) tNil))) tNil)))
    (tRet (tVar 6)))))))))
abbrev st_law_kept_right : Stmt := (topS 50)
def d_law_kept_right : He.DefD := ⟨("_law_kept_right", none), "_law_kept_right", "_law_kept_right", defArgs st_law_kept_right, defBody st_law_kept_right, defScope st_law_kept_right, [], []⟩
def sp_law_kept_right (K : Fg) : Sp := spJ K (tabs K) (F_law_kept_right K)
def t_law_kept_right (K : Fg) (E : XK) : TS := (tSeq (tPar 5 6 (tCons (tCB (uList K) (tCons (tVar 1) tNil)) (tCons (tCB (uList K) (tCons (tVar 3) tNil)) tNil)))
    (tSeq (tAsg (tCall (sp_law_heard_swapped K) [] eN (tCons (tVar 5) (tCons (tVar 2) (tCons (tVar 6) tNil)))) (gTup K 2 (gCons (gName 7) (gCons (gName 8) gNil))))
    (tSeq (tIfS (tOr (tTest (tOp (uNe K) (tVar 7) (tC (.str "told")))) (tOr (tTest (tOp (uNe K) (tVar 5) (tVar 1))) (tOr (tTest (tOp (uNe K) (tVar 6) (tVar 3))) (tNot (tB (tCall (sp_law_yq_same 12 K) [] eN (tCons (tVar 8) (tCons (tVar 4) tNil)))))))) (tRet (tC (.bl false))) tNext)
    (tSeq (tDrop (tBM K "list" rAppend (tVar 8) (tCons (tC .non) tNil)))
    (tRet (tAndV (tOp (uEq K) (tVar 5) (tVar 1)) (tCall (sp_law_yq_same 12 K) [] eN (tCons (tCall (sp_law_heard_swapped K) [] eN (tCons (tVar 5) (tCons (tVar 2) (tCons (tVar 6) tNil)))) (tCons (tTup (tCons (tC (.str "told")) (tCons (tVar 4) tNil))) tNil)))))))))
abbrev st_law_world_right : Stmt := (topS 49)
def d_law_world_right : He.DefD := ⟨("_law_world_right", none), "_law_world_right", "_law_world_right", defArgs st_law_world_right, defBody st_law_world_right, defScope st_law_world_right, [], []⟩
def sp_law_world_right (K : Fg) : Sp := spJ K (tabs K) (F_law_world_right K)
def t_law_world_right (K : Fg) (E : XK) : TS := (tSeq (tAsg (tCB (uLen K) (tCons (tVar 1) tNil)) (gName 3))
    (tSeq (tAsg (tCall (sp_law_walk K) [] eN (tCons (tVar 0) (tCons (tVar 1) (tCons (tVar 2) (tCons (tCall (sp_law_one K) [] eN (tCons (tVar 0) (tCons (tLst (tCons (tC (.int 0)) (tCons (tC (.int 1)) (tCons (tC (.int 3)) (tCons (tC (.int 9)) (tCons (tC (.int 40)) (tCons (tC (.int 120)) tNil))))))) tNil))) tNil))))) (gTup K 2 (gCons (gName 4) (gCons (gName 5) gNil))))
    (tSeq (tAsg (tOp (uAdd K) (tLst (tCons (tVar 4) tNil)) (tCall (sp_law_bent K) [] eN (tCons (tVar 0) (tCons (tVar 4) (tCons (tVar 3) tNil))))) (gName 6))
    (tSeq (tPar 7 8 (tCons (tLst tNil) (tCons (tLst tNil) tNil)))
    (tSeq (tFor (iU K (tVar 6)) (gName 9) (tSeq (tAsg (tCall (sp_law_lw_swapped K) [] eN (tCons (tVar 1) (tCons (tVar 2) (tCons (tVar 9) tNil)))) (gName 10))
    (tSeq (tDrop (tBM K "list" rAppend (tVar 7) (tCons (tCall (sp_law_heard_swapped K) [] eN (tCons (tCall (sp_law_lw_handed K) [] eN (tCons (tVar 0) (tCons (tVar 1) tNil))) (tCons (tVar 2) (tCons (tCall (sp_law_one K) [] eN (tCons (tVar 0) (tCons (tLst (tCons (tVar 9) (tCons (tCB (uTuple K) (tCons (tVar 9) tNil)) tNil))) tNil))) tNil)))) tNil)))
    (tSeq (tDrop (tBM K "list" rAppend (tVar 8) (tCons (tIf (tTest (tOp uIsN (tVar 10) (tC .non))) (tTup (tCons (tC (.str "BadPart")) (tCons (tC (.str "indexes")) tNil))) (tTup (tCons (tC (.str "told")) (tCons (tVar 10) tNil)))) tNil)))
    (tSeq (tDrop (tBM K "list" rAppend (tVar 7) (tCons (tCall (sp_law_heard_judged K) [] eN (tCons (tVar 1) (tCons (tCall (sp_law_lw_handed K) [] eN (tCons (tVar 0) (tCons (tVar 5) tNil))) (tCons (tVar 2) (tCons (tVar 9) tNil))))) tNil)))
    (tSeq (tDrop (tBM K "list" rAppend (tVar 8) (tCons (tTup (tCons (tC (.str "told")) (tCons (tAndV (tOp uNotN (tVar 10) (tC .non)) (tOp (uEq K) (tVar 10) (tVar 5))) tNil))) tNil)))
    (tSeq (tDrop (tBM K "list" rAppend (tVar 7) (tCons (tCall (sp_law_heard_judged K) [] eN (tCons (tVar 1) (tCons (tVar 5) (tCons (tVar 2) (tCons (tCB (uTuple K) (tCons (tVar 9) tNil)) tNil))))) tNil)))
    (tDrop (tBM K "list" rAppend (tVar 8) (tCons (tTup (tCons (tC (.str "told")) (tCons (tC (.bl false)) tNil))) tNil))))))))))
    (tSeq (tFor (iU K (tLst (tCons (tC .non) (tCons (tC (.int 5)) (tCons (tC (.str "0")) (tCons tDNewK (tCons (tC (.bl true)) tNil))))))) (gName 11) (tSeq (tDrop (tBM K "list" rExtend (tVar 7) (tCons (tLst (tCons (tCall (sp_law_heard_swapped K) [] eN (tCons (tVar 1) (tCons (tVar 2) (tCons (tVar 11) tNil)))) tNil)) tNil)))
    (tSeq (tDrop (tBM K "list" rExtend (tVar 7) (tCons (tLst (tCons (tCall (sp_law_heard_judged K) [] eN (tCons (tVar 1) (tCons (tVar 1) (tCons (tVar 2) (tCons (tVar 11) tNil))))) tNil)) tNil)))
    (tDrop (tBM K "list" rExtend (tVar 8) (tCons (tLst (tCons (tTup (tCons (tC (.str "BadPart")) (tCons (tC (.str "indexes")) tNil))) (tCons (tTup (tCons (tC (.str "told")) (tCons (tC (.bl false)) tNil))) tNil))) tNil))))))
    (tSeq (tDrop (tBM K "list" rExtend (tVar 7) (tCons (tLst (tCons (tCall (sp_law_heard_swapped K) [] eN (tCons (tVar 1) (tCons (tVar 2) (tCons (tTup tNil) tNil)))) (tCons (tCall (sp_law_heard_judged K) [] eN (tCons (tVar 1) (tCons (tVar 1) (tCons (tVar 2) (tCons (tLst tNil) tNil))))) tNil))) tNil)))
    (tSeq (tDrop (tBM K "list" rExtend (tVar 8) (tCons (tLst (tCons (tTup (tCons (tC (.str "told")) (tCons (tVar 1) tNil))) (tCons (tTup (tCons (tC (.str "told")) (tCons (tC (.bl true)) tNil))) tNil))) tNil)))
    (tRet (tAndV (tCall (sp_law_yq_same 12 K) [] eN (tCons (tVar 7) (tCons (tVar 8) tNil))) (tCall (sp_law_kept_right K) [] eN (tCons (tVar 0) (tCons (tVar 1) (tCons (tVar 2) (tCons (tVar 4) (tCons (tVar 5) tNil))))))))))))))))
abbrev st_law : Stmt := (topS 51)
def d_law : He.DefD := ⟨("law", none), "law", "law", defArgs st_law, defBody st_law, defScope st_law, [], []⟩
def sp_law (K : Fg) : Sp := spD K (tabs K) (F_law K)
def t_law (K : Fg) (E : XK) : TS := (tSeq (tAsg (tCall (sp_law_pool K) [] eN (tCons (tVar 0) tNil)) (gName 1))
    (tSeq (tFor (iU K (tLst (tCons (tC (.int 60)) (tCons (tC (.int 20)) (tCons (tC (.int 9)) (tCons (tC (.int 5)) (tCons (tC (.int 3)) (tCons (tC (.int 2)) (tCons (tC (.int 1)) (tCons (tC (.int 0)) tNil)))))))))) (gName 2) (tSeq (tAsg (tCall (sp_law_lw_words_names K) [] eN (tCons (tVar 1) (tCons (tCall (sp_law_one K) [] eN (tCons (tVar 1) (tCons (tLst (tCons (tC (.int 8)) (tCons (tC (.int 5)) (tCons (tC (.int 3)) (tCons (tC (.int 2)) tNil))))) tNil))) tNil))) (gName 3))
    (tIfS (tNot (tB (tCall (sp_law_world_right K) [] eN (tCons (tVar 1) (tCons (tCall (sp_law_lw_word K) [] eN (tCons (tVar 1) (tCons (tVar 3) (tCons (tVar 2) tNil)))) (tCons (tCall (sp_law_lw_ties K) [] eN (tCons (tVar 1) (tCons (tVar 3) tNil))) tNil)))))) (tRet (tC (.bl false))) tNext)))
    (tRet (tC (.bl true)))))
def fa : List He.Fa := [.glo "StoreError", .glo "BadPart", .free "isinstance", .free "int", .free "bool", .glo "is_integer", .glo "is_between", .int "MOST_VALUE" 2, .glo "is_value", .free "str", .free "len", .int "MOST_LETTERS" 8, .free "all", .str "LETTERS" "abcdefghijklmnopqrstuvwxyz", .glo "is_name", .glo "BadTies", .glo "BadWord", .free "tuple", .glo "is_tie", .free "enumerate", .glo "check_ties_among", .glo "check_ties", .glo "is_bound", .int "MOST_VALUES" 2, .glo "is_letter", .free "list", .glo "check_word", .glo "check_words", .glo "exchange", .glo "word_behind", .glo "swapped", .glo "are_swaps", .glo "_law_lw_is_bound", .free "range", .glo "_law_lw_pairs", .glo "_law_lw_swapped", .glo "_law_take", .glo "_law_mixed", .glo "_law_lw_words_names", .free "sorted", .glo "_law_lw_ties", .glo "_law_one", .glo "_law_lw_letter", .glo "_law_lw_word", .glo "_law_lw_handed", .free "max", .glo "_law_pool", .glo "_law_yq_is_whole", .glo "_law_yq_same", .glo "_law_heard_swapped", .glo "_law_heard_judged", .glo "_law_walk", .glo "_law_bent", .glo "_law_kept_right", .glo "_law_world_right", .glo "law", .glo "_law_ear", .exm "BadPart" "BadPart" true, .exm "BadPart" "BadWord" false, .exm "BadPart" "StoreError" true]
def fn : List He.DefD := [d_BadPart___init, d_is_integer, d_is_between, d_is_value, d_is_name, d_BadTies___init, d_BadWord___init, d_is_tie, d_check_ties_among, d_check_ties, d_is_bound, d_is_letter, d_check_word, d_check_words, d_exchange, d_word_behind, d_swapped, d_are_swaps, d_law_lw_is_bound, d_law_lw_pairs, d_law_lw_swapped, d_law_take, d_law_mixed, d_law_lw_words_names, d_law_lw_ties, d_law_one, d_law_lw_letter, d_law_lw_word, d_law_lw_handed, d_law_pool, d_law_yq_is_whole, d_law_yq_same, d_law_ear, d_law_heard_swapped, d_law_heard_judged, d_law_walk, d_law_bent, d_law_kept_right, d_law_world_right, d_law]
def exB (K : Fg) : Bool := excB K "BadPart" "part" && (excB K "BadTies" "index" && (excB K "BadWord" "index" && (stB K (He.ga K "StoreError") && (xfB K (He.ga K "BadPart") && decide ((tf.map fun q => (He.cT K q).2).Nodup)))))
end Lp.K68

set_option Elab.async false
set_option linter.all false
set_option maxRecDepth 100000
set_option maxHeartbeats 4000000
/-! W0: the library's small defs keep their specs. Own work. -/
namespace Lp.K68
open PySem PySem.Spec PyProof.Rows L2 LamX Lp
theorem le_le {K : Fg} {T : Tbl} {E : XK} {X : XP} {Γ : List Ent} {P : Dt → Prop} {ta tb tc : TE} (ha : EX K T E X ta Γ fun x => EX K T E X tb Γ fun y => ∃ i j, x = .int i ∧ y = .int j ∧ (decide (i ≤ j) = true → EX K T E X tc Γ fun z => ∃ k, z = .int k ∧ P (.bl (decide (j ≤ k)))) ∧ (decide (i ≤ j) = false → P (.bl false))) :
    EX K T E X (tChain uLe uLe ta tb tc) Γ P := x_chain2 (g := fun i j => decide (i ≤ j)) (h := fun i j => decide (i ≤ j)) (fun i j H Q q => ⟨i, j, rfl, rfl, q⟩) (fun i j H Q q => ⟨i, j, rfl, rfl, q⟩) ha
theorem le_lt {K : Fg} {T : Tbl} {E : XK} {X : XP} {Γ : List Ent} {P : Dt → Prop} {ta tb tc : TE} (ha : EX K T E X ta Γ fun x => EX K T E X tb Γ fun y => ∃ i j, x = .int i ∧ y = .int j ∧ (decide (i ≤ j) = true → EX K T E X tc Γ fun z => ∃ k, z = .int k ∧ P (.bl (decide (j < k)))) ∧ (decide (i ≤ j) = false → P (.bl false))) :
    EX K T E X (tChain uLe (vLt K) ta tb tc) Γ P := x_chain2 (g := fun i j => decide (i ≤ j)) (h := fun i j => decide (i < j)) (fun i j H Q q => ⟨i, j, rfl, rfl, q⟩) (fun i j H Q q => .inl (.inl ⟨i, j, rfl, rfl, q⟩)) ha
theorem okd_int (i : Int) : Okd (.int i) := ⟨rfl, by simp [SeqAt.shaped, toPy, PyData.canLay0, PyData.depth]⟩
theorem okd_bl (b : Bool) : Okd (.bl b) := ⟨rfl, by simp [SeqAt.shaped, toPy, PyData.canLay0, PyData.depth]⟩
theorem okd_non : Okd .non := ⟨rfl, by simp [SeqAt.shaped, toPy, PyData.canLay0, PyData.depth]⟩
theorem okd_str {s : Str} (h : strOkB s = true) : Okd (.str s) := ⟨rfl, by
  have h' : (PyData.str s).canLay0 = true := h
  simp [SeqAt.shaped, toPy, h', PyData.depth]⟩
section
variable {K : Fg} {T : Tbl} {E : XK} {X : XP} {Γ : List Ent} {P : Dt → Prop} {A B : Prop}
theorem x_l {te : TE} (h : EL K T E X te Γ fun ds => P (.lst ds)) : EX K T E X te Γ P := x_lst h fun _ p => p
theorem x_l_lst {tr : TA} (h : EL K T E X (tLst tr) Γ fun ds => P (.lst ds)) : EX K T E X (tLst tr) Γ P := x_l h
theorem x_l_lc {ti : TI} {g : TG} {tt : TT} {te : TE} {vs : List Nat} (h : EL K T E X (tLc ti g tt te vs) Γ fun ds => P (.lst ds)) : EX K T E X (tLc ti g tt te vs) Γ P := x_l h
theorem x_l_list {tr : TA} (h : EL K T E X (tCB (uList K) tr) Γ fun ds => P (.lst ds)) : EX K T E X (tCB (uList K) tr) Γ P := x_l h
theorem x_l_sort {tr : TA} (h : EL K T E X (tCB (rSortedS K) tr) Γ fun ds => P (.lst ds)) : EX K T E X (tCB (rSortedS K) tr) Γ P := x_l h
theorem x_l_sl {ta : TE} {tl th : TO} (h : EL K T E X (tSl (uSl K) ta tl th) Γ fun ds => P (.lst ds)) : EX K T E X (tSl (uSl K) ta tl th) Γ P := x_l h
theorem x_l_rev {ta : TE} (h : EL K T E X (tRevL K ta) Γ fun ds => P (.lst ds)) : EX K T E X (tRevL K ta) Γ P := x_l h
theorem x_allL {te : TE} (h : EL K T E X te Γ fun ds => ∃ bs : List Bool, ds = bs.map Dt.bl ∧ P (.bl (bs.all id))) : EX K T E X (tCB (rAll K) (tCons te tNil)) Γ P :=
  x_all (EX.eb (x_lst h fun ds ⟨bs, e, p⟩ => ⟨bs, by rw [e], p⟩))
/-- a truth that is known -/
theorem bt (h : A) : ∃ c, Dt.bl true = .bl c ∧ (c = true → A) ∧ (c = false → B) := ⟨true, rfl, fun _ => h, fun z => nomatch z⟩
theorem bf (h : B) : ∃ c, Dt.bl false = .bl c ∧ (c = true → A) ∧ (c = false → B) := ⟨false, rfl, fun z => (nomatch z), fun _ => h⟩
theorem nbt (h : B) : ∃ c, Dt.bl true = .bl c ∧ ((!c) = true → A) ∧ ((!c) = false → B) := ⟨true, rfl, fun z => (nomatch z), fun _ => h⟩
theorem nbf (h : A) : ∃ c, Dt.bl false = .bl c ∧ ((!c) = true → A) ∧ ((!c) = false → B) := ⟨false, rfl, fun _ => h, fun z => nomatch z⟩
theorem bb {b : Bool} (h1 : b = true → A) (h2 : b = false → B) : ∃ c, Dt.bl b = .bl c ∧ (c = true → A) ∧ (c = false → B) := ⟨b, rfl, h1, h2⟩
theorem nbb {b : Bool} (h1 : b = false → A) (h2 : b = true → B) : ∃ c, Dt.bl b = .bl c ∧ ((!c) = true → A) ∧ ((!c) = false → B) := ⟨b, rfl, fun z => h1 (by simpa using z), fun z => h2 (by simpa using z)⟩
theorem ot (h : B) : ∃ c, Dt.bl true = .bl c ∧ (c = false → A) ∧ (c = true → B) := ⟨true, rfl, fun z => (nomatch z), fun _ => h⟩
theorem of (h : A) : ∃ c, Dt.bl false = .bl c ∧ (c = false → A) ∧ (c = true → B) := ⟨false, rfl, fun _ => h, fun z => (nomatch z)⟩
theorem ob' {b : Bool} (h1 : b = false → A) (h2 : b = true → B) : ∃ c, Dt.bl b = .bl c ∧ (c = false → A) ∧ (c = true → B) := ⟨b, rfl, h1, h2⟩
theorem not_ (h : A) : ∃ c, Dt.bl true = .bl c ∧ ((!c) = false → A) ∧ ((!c) = true → B) := ⟨true, rfl, fun _ => h, fun z => (nomatch z)⟩
theorem nof (h : B) : ∃ c, Dt.bl false = .bl c ∧ ((!c) = false → A) ∧ ((!c) = true → B) := ⟨false, rfl, fun z => (nomatch z), fun _ => h⟩
theorem nob {b : Bool} (h1 : b = true → A) (h2 : b = false → B) : ∃ c, Dt.bl b = .bl c ∧ ((!c) = false → A) ∧ ((!c) = true → B) := ⟨b, rfl, fun z => h1 (by simpa using z), fun z => h2 (by simpa using z)⟩
theorem tyes {G : Bool → Prop} (h : G true) : ET K T E X tYes Γ G := fun S0 J σ H r xo Q q => q true H h r .refl
end
local macro_rules | `(tactic| walk_at "lp") => `(tactic| first
  | with_reducible refine s_seq ?_
  | with_reducible refine s_if ?_
  | with_reducible refine s_ret ?_
  | with_reducible refine s_next ?_
  | with_reducible refine s_asg ?_
  | with_reducible refine t_test ?_
  | with_reducible refine t_val ?_
  | with_reducible refine t_and ?_
  | with_reducible refine t_or ?_
  | with_reducible refine t_not ?_
  | ((with_reducible apply x_var); (focus rfl))
  | with_reducible refine x_non ?_
  | with_reducible refine x_bl ?_
  | with_reducible refine x_int ?_
  | with_reducible refine x_str ?_
  | with_reducible refine x_and ?_
  | with_reducible refine x_or ?_
  | with_reducible refine x_not ?_
  | with_reducible refine x_if ?_
  | with_reducible refine x_isi ?_
  | with_reducible refine x_isi2 ?_
  | with_reducible refine x_len ?_
  | with_reducible refine x_eq ?_
  | with_reducible refine x_ne ?_
  | with_reducible refine x_ix ?_
  | with_reducible refine x_tup ?_
  | with_reducible refine x_callP ?_
  | ((with_reducible apply x_callJ); (focus rfl))
  | with_reducible refine a_cons ?_
  | with_reducible refine a_nil ?_
  | ((with_reducible apply b_own); (focus rfl))
  | ((with_reducible apply b_var); (focus rfl))
  | with_reducible refine EX.eb ?_
  | with_reducible refine l_list ?_
  | with_reducible refine l_lst ?_
  | with_reducible refine l_sl ?_
  | with_reducible refine l_revL ?_
  | with_reducible refine l_sortS ?_
  | ((with_reducible refine l_lc ?_ ?_); (focus rfl))
  | with_reducible refine i_u ?_
  | with_reducible refine i_rng1 ?_
  | with_reducible refine i_rng2 ?_
  | with_reducible refine i_enum ?_
  | with_reducible refine x_isNB ?_
  | with_reducible refine x_notNB ?_
  | with_reducible refine x_tuple ?_
  | with_reducible refine x_int1 ?_
  | with_reducible refine x_bool1 ?_
  | with_reducible refine x_str1 ?_
  | with_reducible refine x_max2 ?_
  | with_reducible refine x_sub ?_
  | with_reducible refine x_mod ?_
  | with_reducible refine x_fdiv ?_
  | with_reducible refine x_pow ?_
  | with_reducible refine x_gt ?_
  | with_reducible refine x_ge ?_
  | with_reducible refine x_le ?_
  | with_reducible refine x_neg ?_
  | with_reducible refine s_retN ?_
  | with_reducible refine s_raise ?_
  | with_reducible refine s_brk ?_
  | with_reducible refine s_ct ?_
  | with_reducible refine le_le ?_
  | with_reducible refine le_lt ?_
  | with_reducible refine o_no ?_
  | with_reducible refine tyes ?_
  | with_reducible refine x_l_lst ?_
  | with_reducible refine x_l_lc ?_
  | with_reducible refine x_l_list ?_
  | with_reducible refine x_l_sort ?_
  | with_reducible refine x_l_sl ?_
  | with_reducible refine x_l_rev ?_
  | with_reducible refine o_at ?_)
theorem kit_int : ∀ d n, tyD d = some n → ∃ b, kitB n "int" = some b ∧ b = (match d with | .int _ => true | .bl _ => true | _ => false) := fun d n h => by
  cases d <;> cases h <;> first | exact ⟨true, by decide +kernel, rfl⟩ | exact ⟨false, by decide +kernel, rfl⟩
theorem kit_bool : ∀ d n, tyD d = some n → ∃ b, kitB n "bool" = some b ∧ b = (match d with | .bl _ => true | _ => false) := fun d n h => by
  cases d <;> cases h <;> first | exact ⟨true, by decide +kernel, rfl⟩ | exact ⟨false, by decide +kernel, rfl⟩
theorem kit_list : ∀ d n, tyD d = some n → ∃ b, kitB n "list" = some b ∧ b = (match d with | .lst _ => true | _ => false) := fun d n h => by
  cases d <;> cases h <;> first | exact ⟨true, by decide +kernel, rfl⟩ | exact ⟨false, by decide +kernel, rfl⟩
theorem kit_tuple : ∀ d n, tyD d = some n → ∃ b, kitB n "tuple" = some b ∧ b = (match d with | .tup _ => true | _ => false) := fun d n h => by
  cases d <;> cases h <;> first | exact ⟨true, by decide +kernel, rfl⟩ | exact ⟨false, by decide +kernel, rfl⟩
theorem w_is_integer (K : Fg) (E : XK) : OkD K (tabs K) E (F_is_integer K) 1 0 (t_is_integer K E) := by
  rintro ds P X ⟨d, rfl, ⟨n, hn⟩, p⟩
  refine ⟨rfl, ?_⟩
  unfold t_is_integer
  obtain ⟨b1, e1, e1'⟩ := kit_int d n hn
  obtain ⟨b2, e2, e2'⟩ := kit_bool d n hn
  repeat walk_at "lp"
  refine ⟨n, b1, hn, e1, b1, rfl, fun h => ?_, fun h => ?_⟩
  · repeat walk_at "lp"
    refine ⟨n, b2, hn, e2, b2, rfl, ?_⟩
    rw [e2']
    cases d <;> simp_all [intB]
  · cases d <;> simp_all [intB]
theorem w_is_between (K : Fg) (E : XK) : OkD K (tabs K) E (F_is_between K) 3 0 (t_is_between K E) := by
  rintro ds P X ⟨d, a, b, rfl, hty, p⟩
  refine ⟨rfl, ?_⟩
  unfold t_is_between sp_is_integer
  repeat walk_at "lp"
  refine ⟨d, rfl, hty, intB d, rfl, fun h => ?_, fun h => ?_⟩
  · cases d with
    | int i =>
      repeat walk_at "lp"
      refine ⟨a, i, rfl, rfl, fun h => ?_, fun h => ?_⟩
      · walk_at "lp"
        refine ⟨b, rfl, ?_⟩
        simp only [btwB, h, Bool.true_and] at p
        exact p
      · simp only [btwB, h, Bool.false_and] at p
        exact p
    | _ => cases h
  · cases d <;> first | exact p | cases h
theorem w_is_value (K : Fg) (E : XK) : OkD K (tabs K) E (F_is_value K) 1 0 (t_is_value K E) := by
  rintro ds P X ⟨d, rfl, hty, p⟩
  refine ⟨rfl, ?_⟩
  unfold t_is_value sp_is_between
  repeat walk_at "lp"
  exact ⟨d, 0, 2, rfl, hty, p⟩
theorem kit_ss : kitB "str" "str" = some true := by decide +kernel
theorem kit_tt : kitB "tuple" "tuple" = some true := by decide +kernel
theorem w_is_name (K : Fg) (E : XK) : OkD K (tabs K) E (F_is_name K) 2 1 (t_is_name K E) := by
  rintro ds P X ⟨s, rfl, ⟨h1, h2, h3, h4⟩, p⟩
  refine ⟨rfl, ?_⟩
  unfold t_is_name
  show SW K _ E X _ [.val (.str s), .emp] _ _ _ _
  have hsz : s.length ≤ sizeLine := by rw [sizeLine_eq]; omega
  repeat walk_at "lp"
  refine ⟨"str", true, rfl, kit_ss, true, rfl, fun _ => ?_, fun h => nomatch h⟩
  repeat walk_at "lp"
  refine .inr ⟨s, rfl, hsz, 1, s.length, rfl, rfl, fun _ => ?_, fun h => ?_⟩
  · walk_at "lp"
    refine ⟨8, rfl, _, rfl, fun _ => ?_, fun h => ?_⟩
    · refine x_allL ?_
      repeat walk_at "lp"
      refine .inr ⟨s, rfl, by rw [signs_len]; exact hsz, fun i acc => acc = List.replicate i (.bl true), rfl, fun i d acc hd _ e => ?_, fun acc _ e => ?_⟩
      · refine p_name (by simp) (by rfl) ?_
        refine tyes ⟨fun _ => ?_, fun z => nomatch z⟩
        have hc : ∃ c, d = .str ⟨#[c]⟩ ∧ c ∈ s.cps.toList := by
          unfold signs at hd
          rw [List.getElem?_map] at hd
          cases hx : s.cps.toList[i]? with
          | none => rw [hx] at hd; cases hd
          | some c => rw [hx] at hd; exact ⟨c, (Option.some.inj hd).symm, List.mem_of_getElem? hx⟩
        obtain ⟨c, rfl, hc⟩ := hc
        refine x_inS ?_
        repeat walk_at "lp"
        refine ⟨c, letters, rfl, rfl, ?_⟩
        show acc ++ [.bl (decide (c ∈ letters.cps.toList))] = List.replicate (i + 1) (.bl true)
        rw [decide_eq_true (h3 c hc), show acc = List.replicate i (.bl true) from e, List.replicate_succ']
      · refine ⟨List.replicate s.cps.size true, ?_, ?_⟩
        · rw [e, signs_len]; simp
        · have : (List.replicate s.cps.size true).all id = true := by simp
          rw [this]
          exact p
    · have : decide ((s.length : Int) ≤ 8) = true := decide_eq_true (by omega)
      rw [this] at h; cases h
  · have : decide ((1 : Int) ≤ (s.length : Int)) = true := decide_eq_true (by omega)
    rw [this] at h; cases h
theorem cat_dt (b : Bool) : (Rt.val (.bl b)).dt = .bl b := rfl
theorem w_is_tie (K : Fg) (E : XK) : OkD K (tabs K) E (F_is_tie K) 1 0 (t_is_tie K E) := by
  rintro ds P X ⟨⟨a, b⟩, rfl, ha, hb, hlt, p⟩
  refine ⟨rfl, ?_⟩
  unfold t_is_tie sp_is_name
  show SW K _ E X _ [.val (.tup [.str a, .str b])] _ _ _ _
  repeat walk_at "lp"
  refine ⟨"tuple", true, rfl, kit_tt, not_ ?_⟩
  repeat walk_at "lp"
  refine .inl ⟨false, [.str a, .str b], rfl, ?_⟩
  repeat walk_at "lp"
  refine ⟨okd_int _, okd_int _, bf ?_⟩
  repeat walk_at "lp"
  refine ⟨false, _, 0, 0, .str a, rfl, rfl, rfl, rfl, ?_⟩
  walk_at "lp"
  refine ⟨a, rfl, ha, bt ?_⟩
  repeat walk_at "lp"
  refine ⟨false, _, 1, 1, .str b, rfl, rfl, rfl, rfl, ?_⟩
  walk_at "lp"
  refine ⟨b, rfl, hb, bt ?_⟩
  refine x_ltVS ?_
  repeat walk_at "lp"
  refine ⟨false, _, 0, 0, .str a, rfl, rfl, rfl, rfl, ?_⟩
  repeat walk_at "lp"
  refine ⟨false, _, 1, 1, .str b, rfl, rfl, rfl, rfl, a, b, rfl, rfl, ?_⟩
  rw [decide_eq_true (show a.cps.toList < b.cps.toList from hlt)]
  exact p
end Lp.K68

set_option Elab.async false
set_option linter.all false
set_option maxRecDepth 100000
set_option maxHeartbeats 4000000
/-! W1: the library's defs keep their specs, on. Own work. -/
namespace Lp.K68
open PySem PySem.Spec PyProof.Rows L2 LamX Lp
local macro_rules | `(tactic| walk_at "lp") => `(tactic| first
  | with_reducible refine s_seq ?_
  | with_reducible refine s_if ?_
  | with_reducible refine s_ret ?_
  | with_reducible refine s_next ?_
  | with_reducible refine s_asg ?_
  | with_reducible refine t_test ?_
  | with_reducible refine t_val ?_
  | with_reducible refine t_and ?_
  | with_reducible refine t_or ?_
  | with_reducible refine t_not ?_
  | ((with_reducible apply x_var); (focus rfl))
  | with_reducible refine x_non ?_
  | with_reducible refine x_bl ?_
  | with_reducible refine x_int ?_
  | with_reducible refine x_str ?_
  | with_reducible refine x_and ?_
  | with_reducible refine x_or ?_
  | with_reducible refine x_not ?_
  | with_reducible refine x_if ?_
  | with_reducible refine x_isi ?_
  | with_reducible refine x_isi2 ?_
  | with_reducible refine x_len ?_
  | with_reducible refine x_eq ?_
  | with_reducible refine x_ne ?_
  | with_reducible refine x_ix ?_
  | with_reducible refine x_tup ?_
  | with_reducible refine x_callP ?_
  | ((with_reducible apply x_callJ); (focus rfl))
  | with_reducible refine a_cons ?_
  | with_reducible refine a_nil ?_
  | ((with_reducible apply b_own); (focus rfl))
  | ((with_reducible apply b_var); (focus rfl))
  | with_reducible refine EX.eb ?_
  | with_reducible refine l_list ?_
  | with_reducible refine l_lst ?_
  | with_reducible refine l_sl ?_
  | with_reducible refine l_revL ?_
  | with_reducible refine l_sortS ?_
  | ((with_reducible refine l_lc ?_ ?_); (focus rfl))
  | with_reducible refine i_u ?_
  | with_reducible refine i_rng1 ?_
  | with_reducible refine i_rng2 ?_
  | with_reducible refine i_enum ?_
  | with_reducible refine x_isNB ?_
  | with_reducible refine x_notNB ?_
  | with_reducible refine x_tuple ?_
  | with_reducible refine x_int1 ?_
  | with_reducible refine x_bool1 ?_
  | with_reducible refine x_str1 ?_
  | with_reducible refine x_max2 ?_
  | with_reducible refine x_sub ?_
  | with_reducible refine x_mod ?_
  | with_reducible refine x_fdiv ?_
  | with_reducible refine x_pow ?_
  | with_reducible refine x_gt ?_
  | with_reducible refine x_ge ?_
  | with_reducible refine x_le ?_
  | with_reducible refine x_neg ?_
  | with_reducible refine s_retN ?_
  | with_reducible refine s_raise ?_
  | with_reducible refine s_brk ?_
  | with_reducible refine s_ct ?_
  | with_reducible refine le_le ?_
  | with_reducible refine le_lt ?_
  | with_reducible refine o_no ?_
  | with_reducible refine tyes ?_
  | with_reducible refine x_l_lst ?_
  | with_reducible refine x_l_lc ?_
  | with_reducible refine x_l_list ?_
  | with_reducible refine x_l_sort ?_
  | with_reducible refine x_l_sl ?_
  | with_reducible refine x_l_rev ?_
  | with_reducible refine o_at ?_)
theorem kit_lt : kitB "list" "tuple" = some false := by decide +kernel
theorem kit_ll : kitB "list" "list" = some true := by decide +kernel
theorem kit_tl : kitB "tuple" "list" = some false := by decide +kernel
theorem ty_sq {b : Bool} {l : List Dt} : tyD (sqD b l) = some (if b then "list" else "tuple") := by cases b <;> rfl
theorem kit_sql {b : Bool} : kitB (if b then "list" else "tuple") "list" = some b := by
  cases b
  · exact kit_tl
  · exact kit_ll
theorem kit_sqt {b : Bool} : kitB (if b then "list" else "tuple") "tuple" = some (!b) := by
  cases b
  · exact kit_tt
  · exact kit_lt
theorem pairD_get {l : List (Str × Str)} {i : Nat} {x : Dt} (h : (l.map pairD)[i]? = some x) : ∃ p, l[i]? = some p ∧ x = pairD p := by
  rw [List.getElem?_map] at h
  cases hp : l[i]? with
  | none => rw [hp] at h; cases h
  | some p => rw [hp] at h; exact ⟨p, rfl, (Option.some.inj h).symm⟩
theorem ltD_get {l : List Lt} {i : Nat} {x : Dt} (h : (l.map ltD)[i]? = some x) : ∃ p, l[i]? = some p ∧ x = ltD p := by
  rw [List.getElem?_map] at h
  cases hp : l[i]? with
  | none => rw [hp] at h; cases h
  | some p => rw [hp] at h; exact ⟨p, rfl, (Option.some.inj h).symm⟩
theorem w_check_ties_among (K : Fg) (E : XK) : OkD K (tabs K) E (F_check_ties_among K) 5 3 (t_check_ties_among K E) := by
  rintro ds P X ⟨l, rfl, ⟨hok, hpw, hlen⟩, p⟩
  refine ⟨rfl, ?_⟩
  unfold t_check_ties_among sp_is_tie
  show SW K _ E X _ [.val (.tup (l.map pairD)), .val .non, .emp, .emp, .emp] _ _ _ _
  repeat walk_at "lp"
  refine ⟨"tuple", true, rfl, kit_tt, nbt ?_⟩
  repeat walk_at "lp"
  refine s_for ?_
  repeat walk_at "lp"
  refine ⟨false, _, rfl, fun i Γ' => ∃ last ix tie, Γ' = [.val (.tup (l.map pairD)), .val .non, .val last, ix, tie] ∧ noOwn Γ' 3 = true ∧ noOwn Γ' 4 = true ∧ ((last = .non ∧ i = 0) ∨ ∃ j p, i = j + 1 ∧ l[j]? = some p ∧ last = pairD p), [3, 4], ⟨_, _, _, rfl, rfl, rfl, .inl ⟨rfl, rfl⟩⟩, fun i d Γ' hd iv => ?_, fun Γ' _ => p⟩
  obtain ⟨last, ix, tie, rfl, n3, n4, hl⟩ := iv
  obtain ⟨x, hx, rfl⟩ := enD_get hd
  obtain ⟨pr, hp, rfl⟩ := pairD_get hx
  refine g_p (p_tup rfl (ps_cons (p_name (by simp) n3 (ps_cons (p_name (by simp) (by cases ix <;> exact n4) (ps_nil ?_))))))
  have hpm := hok pr (List.mem_of_getElem? hp)
  repeat walk_at "lp"
  refine ⟨pr, rfl, hpm.1, hpm.2.1, hpm.2.2, not_ ?_⟩
  walk_at "lp"
  have rest : SW K (tabs K) E X (tSeq (tIfS (tAnd (tTest (tOp uNotN (tVar 1) (tC .non))) (tOr (tTest (tOp (vNin K) (tOp (rIx K) (tVar 4) (tC (.int 0))) (tVar 1))) (tTest (tOp (vNin K) (tOp (rIx K) (tVar 4) (tC (.int 1))) (tVar 1))))) (tRz (He.ga K "BadTies") (sp_BadTies___init K) E (tCons (tVar 3) tNil)) tNext)
      (tAsg (tVar 4) (gName 2))) [.val (.tup (l.map pairD)), .val .non, .val last, .val (.int (i : Nat)), .val (pairD pr)]
      (fun Γ' => ∃ last ix tie, Γ' = [.val (.tup (l.map pairD)), .val .non, .val last, ix, tie] ∧ noOwn Γ' 3 = true ∧ noOwn Γ' 4 = true ∧ ((last = .non ∧ i + 1 = 0) ∨ ∃ j p, i + 1 = j + 1 ∧ l[j]? = some p ∧ last = pairD p)) (fun r x => P r) (fun Γ' => P (.val .non))
      (fun Γ' => ∃ last ix tie, Γ' = [.val (.tup (l.map pairD)), .val .non, .val last, ix, tie] ∧ noOwn Γ' 3 = true ∧ noOwn Γ' 4 = true ∧ ((last = .non ∧ i + 1 = 0) ∨ ∃ j p, i + 1 = j + 1 ∧ l[j]? = some p ∧ last = pairD p)) := by
    repeat walk_at "lp"
    refine bf ⟨fun z => (nomatch z), fun _ => ?_⟩
    repeat walk_at "lp"
    exact ⟨_, _, _, rfl, rfl, rfl, .inr ⟨i, pr, rfl, hp, rfl⟩⟩
  repeat walk_at "lp"
  rcases hl with ⟨rfl, rfl⟩ | ⟨j, q, rfl, hq, rfl⟩
  · refine bf ⟨fun z => (nomatch z), fun _ => ?_⟩
    walk_at "lp"
    exact rest
  · refine bt ?_
    walk_at "lp"
    walk_at "lp"
    refine x_ltVP ?_
    repeat walk_at "lp"
    have e : ltPB q pr = true := by
      have hj := (List.getElem?_eq_some_iff.mp hq)
      have hi := (List.getElem?_eq_some_iff.mp hp)
      obtain ⟨h1, e1⟩ := hj
      obtain ⟨h2, e2⟩ := hi
      rw [← e1, ← e2]
      exact List.pairwise_iff_getElem.mp hpw j (j + 1) h1 h2 (by omega)
    refine ⟨q.1, q.2, pr.1, pr.2, rfl, rfl, ?_⟩
    have e' : (if q.1 = pr.1 then decide (q.2.cps.toList < pr.2.cps.toList) && !decide (q.2 = pr.2) else decide (q.1.cps.toList < pr.1.cps.toList)) = true := e
    rw [e']
    refine nbt ?_
    walk_at "lp"
    exact rest
theorem w_check_ties (K : Fg) (E : XK) : OkD K (tabs K) E (F_check_ties K) 1 0 (t_check_ties K E) := by
  rintro ds P X ⟨l, rfl, ht, p⟩
  refine ⟨rfl, ?_⟩
  unfold t_check_ties sp_check_ties_among
  refine s_drop ?_
  repeat walk_at "lp"
  exact ⟨l, rfl, ht, p⟩
theorem okd_pair {a b : Str} (h1 : strOkB a = true) (h2 : strOkB b = true) : Okd (pairD (a, b)) := ⟨rfl, by
  have e1 : (PyData.str a).canLay0 = true := h1
  have e2 : (PyData.str b).canLay0 = true := h2
  simp [SeqAt.shaped, pairD, toPy, toPyL, PyData.canLay0, PyData.canLayAll0, PyData.depth, PyData.depthAll, e1, e2]
  exact ⟨h1, h2⟩⟩
theorem ties_lay : ∀ {l : List (Str × Str)}, (∀ p ∈ l, strOkB p.1 = true ∧ strOkB p.2 = true) → plainL (l.map pairD) = true ∧ PyData.canLayAll0 (toPyL (l.map pairD)) = true ∧ PyData.depthAll (toPyL (l.map pairD)) ≤ 1
  | [], _ => ⟨rfl, rfl, by simp [toPyL, PyData.depthAll]⟩
  | p :: l, h => by
    obtain ⟨h1, h2⟩ := h p (by simp)
    obtain ⟨i1, i2, i3⟩ := ties_lay (l := l) fun q hq => h q (by simp [hq])
    refine ⟨?_, ?_, ?_⟩
    · simp [plainL, pairD, plainB, i1]
    · simp [toPyL, pairD, toPy, PyData.canLayAll0, PyData.canLay0, i2]
      exact ⟨h1, h2⟩
    · simp [toPyL, pairD, toPy, PyData.depthAll, PyData.depth]
      exact Nat.max_le.mpr ⟨Nat.le_refl _, i3⟩
theorem okd_ties {tl : List Dt} (h : GoodT tl) : Okd (.tup tl) := by
  obtain ⟨l, rfl, hok, _, _⟩ := h
  obtain ⟨i1, i2, i3⟩ := ties_lay (l := l) fun p hp => ⟨(hok p hp).1.2.2.2, (hok p hp).2.1.2.2.2⟩
  refine ⟨by simpa [plainB] using i1, ?_⟩
  simp [SeqAt.shaped, toPy, PyData.canLay0, PyData.depth, i2]
  omega
theorem w_is_bound (K : Fg) (E : XK) : OkD K (tabs K) E (F_is_bound K) 3 0 (t_is_bound K E) := by
  rintro ds P X ⟨tl, a, b, rfl, ht, ha, hb, p⟩
  refine ⟨rfl, ?_⟩
  unfold t_is_bound
  show SW K _ E X _ [.val (.tup tl), .val (.str a), .val (.str b)] _ _ _ _
  repeat walk_at "lp"
  refine ⟨okd_str ha, okd_str hb, ob' (fun h => ?_) fun h => ?_⟩
  · walk_at "lp"
    refine x_in ?_
    repeat walk_at "lp"
    refine ⟨by show 2 ≤ sizeLine; decide, ?_⟩
    repeat walk_at "lp"
    refine ⟨tl, .inl rfl, okd_pair ha hb, okd_ties ht, ob' (fun h2 => ?_) fun h2 => ?_⟩
    · refine x_in ?_
      repeat walk_at "lp"
      refine ⟨by show 2 ≤ sizeLine; decide, ?_⟩
      repeat walk_at "lp"
      refine ⟨tl, .inl rfl, okd_pair hb ha, okd_ties ht, ?_⟩
      have e : bndD tl a b = (tl.any fun z => eqD z (pairD (b, a))) := by
        unfold bndD
        rw [h, show (tl.any fun z => eqD z (pairD (a, b))) = false from h2]; rfl
      rw [e] at p
      exact p
    · have e : bndD tl a b = true := by
        unfold bndD
        rw [h, show (tl.any fun z => eqD z (pairD (a, b))) = true from h2]; rfl
      rw [e] at p
      exact p
  · have e : bndD tl a b = true := by
      unfold bndD
      rw [h]; rfl
    rw [e] at p
    exact p
theorem w_law_lw_is_bound (K : Fg) (E : XK) : OkD K (tabs K) E (F_law_lw_is_bound K) 3 0 (t_law_lw_is_bound K E) := w_is_bound K E
theorem w_is_letter (K : Fg) (E : XK) : OkD K (tabs K) E (F_is_letter K) 3 2 (t_is_letter K E) := by
  rintro ds P X ⟨⟨nm, vs⟩, rfl, ⟨hn, h2, hv⟩, p⟩
  refine ⟨rfl, ?_⟩
  unfold t_is_letter sp_is_name sp_is_value
  show SW K _ E X _ [.val (.tup [.str nm, .tup (vs.map .int)]), .emp, .emp] _ _ _ _
  repeat walk_at "lp"
  refine ⟨"tuple", true, rfl, kit_tt, not_ ?_⟩
  repeat walk_at "lp"
  refine .inl ⟨false, _, rfl, ?_⟩
  repeat walk_at "lp"
  refine ⟨okd_int _, okd_int _, of ?_⟩
  repeat walk_at "lp"
  refine ⟨false, _, 0, 0, .str nm, rfl, rfl, rfl, rfl, ?_⟩
  walk_at "lp"
  refine ⟨nm, rfl, hn, nbt ?_⟩
  repeat walk_at "lp"
  refine ⟨false, _, 1, 1, .tup (vs.map .int), rfl, rfl, rfl, rfl, ?_⟩
  repeat walk_at "lp"
  refine ⟨"tuple", true, rfl, kit_tt, bt ?_⟩
  have hle : decide (((vs.map Dt.int).length : Int) ≤ 2) = true := decide_eq_true (by rw [List.length_map]; have : vs.length ≤ 2 := h2; omega)
  have hsz : vs.length ≤ sizeLine := by have : vs.length ≤ 2 := h2; rw [sizeLine_eq]; omega
  repeat walk_at "lp"
  refine .inl ⟨false, _, rfl, ?_⟩
  repeat walk_at "lp"
  refine ⟨_, _, rfl, rfl, ?_⟩
  rw [hle]
  refine bt ?_
  refine x_allL ?_
  repeat walk_at "lp"
  refine .inl ⟨false, _, rfl, by rw [List.length_map]; exact hsz, fun i acc => acc = List.replicate i (.bl true), rfl, fun i d acc hd _ e => ?_, fun acc _ e => ?_⟩
  · refine p_name (by simp) (by rfl) ?_
    refine tyes ⟨fun _ => ?_, fun z => nomatch z⟩
    rw [List.getElem?_map] at hd
    cases hx : vs[i]? with
    | none => rw [hx] at hd; cases hd
    | some v =>
      rw [hx] at hd
      cases hd
      repeat walk_at "lp"
      refine ⟨_, rfl, ⟨_, rfl⟩, ?_⟩
      obtain ⟨v1, v2⟩ := hv v (List.mem_of_getElem? hx)
      have e2 : btwB (.int v) 0 2 = true := by simp [btwB, v1, v2]
      rw [e2]
      show acc ++ [.bl true] = List.replicate (i + 1) (.bl true)
      rw [show acc = List.replicate i (.bl true) from e, List.replicate_succ']
  · refine ⟨List.replicate vs.length true, ?_, ?_⟩
    · rw [show acc = _ from e]; simp
    · have : (List.replicate vs.length true).all id = true := by simp
      rw [this]
      exact p
theorem w_check_word (K : Fg) (E : XK) : OkD K (tabs K) E (F_check_word K) 3 2 (t_check_word K E) := by
  rintro ds P X ⟨b, l, rfl, ⟨hok, hlen⟩, p⟩
  refine ⟨rfl, ?_⟩
  unfold t_check_word sp_is_letter
  show SW K _ E X _ [.val (sqD b (l.map ltD)), .emp, .emp] _ _ _ _
  repeat walk_at "lp"
  refine ⟨_, b, !b, ty_sq, kit_sql, kit_sqt, ?_⟩
  have e : (b || !b) = true := by cases b <;> rfl
  rw [e]
  refine nbt ?_
  repeat walk_at "lp"
  refine s_for ?_
  repeat walk_at "lp"
  refine ⟨b, _, rfl, fun i Γ' => ∃ ix x, Γ' = [.val (sqD b (l.map ltD)), ix, x] ∧ noOwn Γ' 1 = true ∧ noOwn Γ' 2 = true, [1, 2], ⟨_, _, rfl, rfl, rfl⟩, fun i d Γ' hd iv => ?_, fun Γ' _ => p⟩
  obtain ⟨ix, x, rfl, n3, n4⟩ := iv
  obtain ⟨x, hx, rfl⟩ := enD_get hd
  obtain ⟨lt, hp, rfl⟩ := ltD_get hx
  refine g_p (p_tup rfl (ps_cons (p_name (by simp) n3 (ps_cons (p_name (by simp) (by cases ix <;> exact n4) (ps_nil ?_))))))
  repeat walk_at "lp"
  refine ⟨lt, rfl, hok lt (List.mem_of_getElem? hp), nbt ?_⟩
  repeat walk_at "lp"
  exact ⟨_, _, rfl, rfl, rfl⟩
theorem w_check_words (K : Fg) (E : XK) : OkD K (tabs K) E (F_check_words K) 3 0 (t_check_words K E) := by
  rintro ds P X ⟨b, l, b', l', tl, rfl, h1, h2, ht, p⟩
  refine ⟨rfl, ?_⟩
  unfold t_check_words sp_check_word sp_check_ties
  show SW K _ E X _ [.val (sqD b (l.map ltD)), .val (sqD b' (l'.map ltD)), .val (.tup tl)] _ _ _ _
  walk_at "lp"
  refine s_drop ?_
  repeat walk_at "lp"
  refine ⟨b, l, rfl, h1, ?_⟩
  walk_at "lp"
  refine s_drop ?_
  repeat walk_at "lp"
  refine ⟨b', l', rfl, h2, ?_⟩
  refine s_drop ?_
  repeat walk_at "lp"
  obtain ⟨tt, rfl, ht⟩ := ht
  exact ⟨tt, rfl, ht, p⟩
theorem ixN_of {n k : Nat} (h : k < n) : ixN n (k : Nat) = some k := by
  have h1 : (0 : Int) ≤ (k : Nat) := by omega
  have h2 : ((k : Nat) : Int) < n := by omega
  unfold ixN
  rw [if_pos h1, if_pos h2, Int.toNat_natCast]
theorem w_exchange (K : Fg) (E : XK) : OkO K (tabs K) E (F_exchange K) 2 0 (t_exchange K E) := by
  rintro p ds es P X ⟨k, x, y, rfl, hx, hy, q⟩
  refine ⟨rfl, ?_⟩
  unfold t_exchange
  show SW K _ E X _ [.own p ds, .val (.int (k : Nat))] _ _ _ _
  have h1 := (List.getElem?_eq_some_iff.mp hx).1
  have h2 := (List.getElem?_eq_some_iff.mp hy).1
  have ex1 : ((k : Nat) : Int) + 1 = ((k + 1 : Nat) : Int) := by omega
  refine s_asgG (L := []) ?_
  repeat walk_at "lp"
  refine x_add ?_
  repeat walk_at "lp"
  refine ⟨_, _, rfl, rfl, true, ds, _, k + 1, y, rfl, rfl, by rw [ex1]; exact ixN_of h2, hy, ?_⟩
  repeat walk_at "lp"
  refine ⟨true, ds, _, k, x, rfl, rfl, ixN_of h1, hx, ?_⟩
  walk_at "lp"
  refine ⟨by show 2 ≤ sizeLine; decide, ?_⟩
  refine g_tup rfl (gs_cons (g_sub rfl ?_))
  walk_at "lp"
  refine ⟨_, k, rfl, ixN_of h1, ?_⟩
  refine gs_cons (g_sub rfl ?_)
  refine x_add ?_
  repeat walk_at "lp"
  refine ⟨_, _, rfl, rfl, _, k + 1, rfl, by rw [ex1]; exact ixN_of (by rw [List.length_set]; exact h2), ?_⟩
  exact gs_nil ⟨_, rfl, q⟩
end Lp.K68

set_option Elab.async false
set_option linter.all false
set_option maxRecDepth 100000
set_option maxHeartbeats 4000000
/-! W2: swaps. Own work. -/
namespace Lp.K68
open PySem PySem.Spec PyProof.Rows L2 LamX Lp
local macro_rules | `(tactic| walk_at "lp") => `(tactic| first
  | with_reducible refine s_seq ?_
  | with_reducible refine s_if ?_
  | with_reducible refine s_ret ?_
  | with_reducible refine s_next ?_
  | with_reducible refine s_asg ?_
  | with_reducible refine t_test ?_
  | with_reducible refine t_val ?_
  | with_reducible refine t_and ?_
  | with_reducible refine t_or ?_
  | with_reducible refine t_not ?_
  | ((with_reducible apply x_var); (focus rfl))
  | with_reducible refine x_non ?_
  | with_reducible refine x_bl ?_
  | with_reducible refine x_int ?_
  | with_reducible refine x_str ?_
  | with_reducible refine x_and ?_
  | with_reducible refine x_or ?_
  | with_reducible refine x_not ?_
  | with_reducible refine x_if ?_
  | with_reducible refine x_isi ?_
  | with_reducible refine x_isi2 ?_
  | with_reducible refine x_len ?_
  | with_reducible refine x_eq ?_
  | with_reducible refine x_ne ?_
  | with_reducible refine x_ix ?_
  | with_reducible refine x_tup ?_
  | with_reducible refine x_callP ?_
  | ((with_reducible apply x_callJ); (focus rfl))
  | with_reducible refine a_cons ?_
  | with_reducible refine a_nil ?_
  | ((with_reducible apply b_own); (focus rfl))
  | ((with_reducible apply b_var); (focus rfl))
  | with_reducible refine EX.eb ?_
  | with_reducible refine l_list ?_
  | with_reducible refine l_lst ?_
  | with_reducible refine l_sl ?_
  | with_reducible refine l_revL ?_
  | with_reducible refine l_sortS ?_
  | ((with_reducible refine l_lc ?_ ?_); (focus rfl))
  | with_reducible refine i_u ?_
  | with_reducible refine i_rng1 ?_
  | with_reducible refine i_rng2 ?_
  | with_reducible refine i_enum ?_
  | with_reducible refine x_isNB ?_
  | with_reducible refine x_notNB ?_
  | with_reducible refine x_tuple ?_
  | with_reducible refine x_int1 ?_
  | with_reducible refine x_bool1 ?_
  | with_reducible refine x_str1 ?_
  | with_reducible refine x_max2 ?_
  | with_reducible refine x_sub ?_
  | with_reducible refine x_mod ?_
  | with_reducible refine x_fdiv ?_
  | with_reducible refine x_pow ?_
  | with_reducible refine x_gt ?_
  | with_reducible refine x_ge ?_
  | with_reducible refine x_le ?_
  | with_reducible refine x_neg ?_
  | with_reducible refine s_retN ?_
  | with_reducible refine s_raise ?_
  | with_reducible refine s_brk ?_
  | with_reducible refine s_ct ?_
  | with_reducible refine le_le ?_
  | with_reducible refine le_lt ?_
  | with_reducible refine o_no ?_
  | with_reducible refine tyes ?_
  | with_reducible refine x_l_lst ?_
  | with_reducible refine x_l_lc ?_
  | with_reducible refine x_l_list ?_
  | with_reducible refine x_l_sort ?_
  | with_reducible refine x_l_sl ?_
  | with_reducible refine x_l_rev ?_
  | with_reducible refine o_at ?_)
theorem step_int {tl : List Dt} {l : List Lt} {k : Nat} {x y : Lt} (hx : l[k]? = some x) (hy : l[k + 1]? = some y) : lwStep tl l (.int (k : Nat)) = if bndD tl x.1 y.1 = true then none else some (swapAt l k x y) := by
  have h2 := (List.getElem?_eq_some_iff.mp hy).1
  show (if 0 ≤ ((k : Nat) : Int) ∧ ((k : Nat) : Int) + 1 < l.length then (match l[((k : Nat) : Int).toNat]?, l[((k : Nat) : Int).toNat + 1]? with
    | some x, some y => if bndD tl x.1 y.1 = true then none else some (swapAt l ((k : Nat) : Int).toNat x y)
    | _, _ => none) else none) = _
  rw [if_pos ⟨by omega, by omega⟩, Int.toNat_natCast, hx, hy]
theorem step_no {tl : List Dt} {l : List Lt} {d : Dt} (h : btwB d 0 ((l.length : Int) - 2) = false) : lwStep tl l d = none := by
  cases d with
  | int i =>
    show (if 0 ≤ i ∧ i + 1 < l.length then _ else none) = none
    rw [if_neg]
    intro ⟨h1, h2⟩
    have : btwB (.int i) 0 ((l.length : Int) - 2) = true := by simp [btwB]; omega
    rw [this] at h; cases h
  | _ => rfl
theorem btw_yes {l : List Lt} {d : Dt} (h : btwB d 0 ((l.length : Int) - 2) = true) : ∃ (k : Nat) (x y : Lt), d = .int (k : Nat) ∧ l[k]? = some x ∧ l[k + 1]? = some y := by
  cases d with
  | int i =>
    simp [btwB] at h
    obtain ⟨k, rfl⟩ := Int.eq_ofNat_of_zero_le h.1
    have h2 : k + 1 < l.length := by omega
    exact ⟨k, l[k], l[k + 1], rfl, List.getElem?_eq_getElem (by omega), List.getElem?_eq_getElem h2⟩
  | _ => cases h
theorem swap_map {l : List Lt} {k : Nat} {x y : Lt} : swapAt (l.map ltD) k (ltD x) (ltD y) = (swapAt l k x y).map ltD := by
  unfold swapAt
  rw [List.map_set, List.map_set]
theorem swap_len {l : List Lt} {k : Nat} {x y : Lt} : (swapAt l k x y).length = l.length := by unfold swapAt; simp
theorem swap_mem {l : List Lt} {k : Nat} {x y z : Lt} (hx : l[k]? = some x) (hy : l[k + 1]? = some y) (h : z ∈ swapAt l k x y) : z ∈ l := by
  unfold swapAt at h
  rcases List.mem_or_eq_of_mem_set h with h | h
  · rcases List.mem_or_eq_of_mem_set h with h | h
    · exact h
    · rw [h]; exact List.mem_of_getElem? hy
  · rw [h]; exact List.mem_of_getElem? hx
theorem swap_ok {l : List Lt} {k : Nat} {x y : Lt} (hx : l[k]? = some x) (hy : l[k + 1]? = some y) (h : WordOk l) : WordOk (swapAt l k x y) := ⟨fun z hz => h.1 z (swap_mem hx hy hz), by rw [swap_len]; exact h.2⟩
theorem swaps_ok {tl : List Dt} : ∀ {ix : List Dt} {l r : List Lt}, WordOk l → lwSwap tl ix l = some r → WordOk r
  | [], l, r, h, e => by cases e; exact h
  | d :: ix, l, r, h, e => by
    have e' : (lwStep tl l d).bind (fun l' => lwSwap tl ix l') = some r := e
    by_cases hb : btwB d 0 ((l.length : Int) - 2) = true
    · obtain ⟨k, x, y, rfl, hx, hy⟩ := btw_yes hb
      rw [step_int hx hy] at e'
      by_cases hbn : bndD tl x.1 y.1 = true
      · rw [if_pos hbn] at e'; cases e'
      · rw [if_neg hbn] at e'
        exact swaps_ok (swap_ok hx hy h) e'
    · rw [step_no (by simpa using hb)] at e'; cases e'
theorem lt_lay : ∀ {vs : List Int}, plainL (vs.map .int) = true ∧ PyData.canLayAll0 (toPyL (vs.map .int)) = true ∧ PyData.depthAll (toPyL (vs.map .int)) = 0
  | [] => ⟨rfl, rfl, rfl⟩
  | v :: vs => by
    obtain ⟨h1, h2, h3⟩ := lt_lay (vs := vs)
    refine ⟨by simp [plainL, plainB, h1], by simp [toPyL, toPy, PyData.canLayAll0, PyData.canLay0, h2], by simp [toPyL, toPy, PyData.depthAll, PyData.depth, h3]⟩
theorem word_lay : ∀ {l : List Lt}, (∀ x ∈ l, okLt x) → plainL (l.map ltD) = true ∧ PyData.canLayAll0 (toPyL (l.map ltD)) = true ∧ PyData.depthAll (toPyL (l.map ltD)) ≤ 2
  | [], _ => ⟨rfl, rfl, by simp [toPyL, PyData.depthAll]⟩
  | p :: l, h => by
    obtain ⟨h1, _, _⟩ := h p (by simp)
    obtain ⟨i1, i2, i3⟩ := word_lay (l := l) fun q hq => h q (by simp [hq])
    obtain ⟨j1, j2, j3⟩ := lt_lay (vs := p.2)
    refine ⟨?_, ?_, ?_⟩
    · simp [plainL, ltD, plainB, i1, j1]
    · simp [toPyL, ltD, toPy, PyData.canLayAll0, PyData.canLay0, i2, j2]
      exact h1.2.2.2
    · simp [toPyL, ltD, toPy, PyData.depthAll, PyData.depth, j3]
      exact Nat.max_le.mpr ⟨by decide, i3⟩
theorem okd_word {l : List Lt} (h : WordOk l) : Okd (.lst (l.map ltD)) := by
  obtain ⟨i1, i2, i3⟩ := word_lay h.1
  refine ⟨by simpa [plainB] using i1, ?_⟩
  simp [SeqAt.shaped, toPy, PyData.canLay0, PyData.depth, i2]
  omega
theorem okd_res {tl ix : List Dt} {l : List Lt} (h : WordOk l) : Okd (resD (lwSwap tl ix l)) := by
  cases e : lwSwap tl ix l with
  | none => exact okd_non
  | some r => exact okd_word (swaps_ok h e)
theorem swap_drop {tl : List Dt} {ix : List Dt} {i : Nat} {d : Dt} {now : List Lt} (hd : ix[i]? = some d) : lwSwap tl (ix.drop i) now = (lwStep tl now d).bind fun l' => lwSwap tl (ix.drop (i + 1)) l' := by
  have hl := (List.getElem?_eq_some_iff.mp hd)
  obtain ⟨h1, h2⟩ := hl
  rw [List.drop_eq_getElem_cons h1, h2]
  rfl
theorem w_word_behind (K : Fg) (E : XK) : OkD K (tabs K) E (F_word_behind K) 5 2 (t_word_behind K E) := by
  rintro ds P X ⟨b, l, tl, b', ix, rfl, hw, ht, hix, p1, p2⟩
  refine ⟨rfl, ?_⟩
  unfold t_word_behind sp_is_between sp_is_bound sp_exchange
  show SW K _ E X _ [.val (sqD b (l.map ltD)), .val (.tup tl), .val (sqD b' ix), .emp, .emp] _ _ _ _
  walk_at "lp"
  refine s_asgO ?_
  repeat walk_at "lp"
  refine ⟨b, _, rfl, fun p hp => ?_⟩
  walk_at "lp"
  refine s_for ?_
  repeat walk_at "lp"
  refine .inl ⟨b', ix, rfl, fun i Γ' => ∃ now e, Γ' = [.val (sqD b (l.map ltD)), .val (.tup tl), .val (sqD b' ix), .own p (now.map ltD), e] ∧ noOwn Γ' 4 = true ∧ WordOk now ∧ lwSwap tl ix l = lwSwap tl (ix.drop i) now, [4], ⟨l, .emp, rfl, rfl, hw, rfl⟩, fun i d Γ' hd iv => ?_, fun Γ' iv => ?_⟩
  · obtain ⟨now, e, rfl, n4, hn, eq⟩ := iv
    rw [swap_drop hd] at eq
    refine g_p (p_name (by simp) n4 ?_)
    repeat walk_at "lp"
    refine .inl ⟨true, _, rfl, ?_⟩
    repeat walk_at "lp"
    refine ⟨_, _, rfl, rfl, ?_⟩
    walk_at "lp"
    refine ⟨d, 0, ((now.map ltD).length : Int) - 2, rfl, hix d (List.mem_of_getElem? hd), nob (fun hb => ?_) fun hb => ⟨fun _ => ?_, fun z => nomatch z⟩⟩
    · rw [List.length_map] at hb
      obtain ⟨k, x, y, rfl, hx, hy⟩ := btw_yes hb
      have h1 := (List.getElem?_eq_some_iff.mp hx).1
      have h2 := (List.getElem?_eq_some_iff.mp hy).1
      have hxm : (now.map ltD)[k]? = some (ltD x) := by rw [List.getElem?_map, hx]; rfl
      have hym : (now.map ltD)[k + 1]? = some (ltD y) := by rw [List.getElem?_map, hy]; rfl
      have ex1 : ((k : Nat) : Int) + 1 = ((k + 1 : Nat) : Int) := by omega
      have okx := hn.1 x (List.mem_of_getElem? hx)
      have oky := hn.1 y (List.mem_of_getElem? hy)
      rw [step_int hx hy] at eq
      repeat walk_at "lp"
      refine ⟨true, _, _, k, ltD x, rfl, rfl, ixN_of (by rw [List.length_map]; exact h1), hxm, ?_⟩
      walk_at "lp"
      refine ⟨false, _, 0, 0, .str x.1, rfl, rfl, rfl, rfl, ?_⟩
      repeat walk_at "lp"
      refine x_add ?_
      repeat walk_at "lp"
      refine ⟨_, _, rfl, rfl, true, _, _, k + 1, ltD y, rfl, rfl, by rw [ex1]; exact ixN_of (by rw [List.length_map]; exact h2), hym, ?_⟩
      walk_at "lp"
      refine ⟨false, _, 0, 0, .str y.1, rfl, rfl, rfl, rfl, ?_⟩
      walk_at "lp"
      refine ⟨tl, x.1, y.1, rfl, ht, okx.1.2.2.2, oky.1.2.2.2, bb (fun hb => ?_) fun hb => ?_⟩
      · repeat walk_at "lp"
        refine p1 ?_
        rw [eq, if_pos hb]
        rfl
      · walk_at "lp"
        refine s_callO rfl ?_
        repeat walk_at "lp"
        refine ⟨k, ltD x, ltD y, rfl, hxm, hym, swapAt now k x y, .val (.int (k : Nat)), ?_, rfl, swap_ok hx hy hn, ?_⟩
        · show [_, _, _, Ent.own p (swapAt (now.map ltD) k (ltD x) (ltD y)), Ent.val (.int (k : Nat))] = _
          rw [swap_map]
        · rw [eq, if_neg (by rw [hb]; simp)]; rfl
    · rw [List.length_map] at hb
      repeat walk_at "lp"
      refine p1 ?_
      rw [eq, step_no hb]
      rfl
  · obtain ⟨now, e, rfl, n4, hn, eq⟩ := iv
    refine s_retO rfl (p2 now ?_)
    rw [eq, List.drop_length]
    rfl
theorem kit_sq2 {d : Dt} {n : String} (h : tyD d = some n) : ∃ b b', kitB n "list" = some b ∧ kitB n "tuple" = some b' ∧ ((b || b') = true → ∃ c ix, d = sqD c ix) ∧ ((b || b') = false → ∀ c ix, d ≠ sqD c ix) ∧ (b = true → ∃ ix, d = .lst ix) ∧ (b = false → ∀ ix, d ≠ .lst ix) := by
  obtain ⟨b, e1, e2⟩ := kit_list d n h
  obtain ⟨b', e3, e4⟩ := kit_tuple d n h
  refine ⟨b, b', e1, e3, ?_⟩
  subst e2 e4
  cases d with
  | lst ix => exact ⟨fun _ => ⟨true, ix, rfl⟩, fun z => (nomatch z), fun _ => ⟨ix, rfl⟩, fun z => (nomatch z)⟩
  | tup ix => exact ⟨fun _ => ⟨false, ix, rfl⟩, fun z => (nomatch z), fun z => (nomatch z), fun _ ix z => (nomatch z)⟩
  | _ => exact ⟨fun z => (nomatch z), fun _ c ix z => (by cases c <;> cases z), fun z => (nomatch z), fun _ ix z => (nomatch z)⟩
theorem swOf_sq {tl : List Dt} {l : List Lt} {b : Bool} {ix : List Dt} : swOf tl l (sqD b ix) = lwSwap tl ix l := by cases b <;> rfl
theorem swOf_no {tl : List Dt} {l : List Lt} {d : Dt} (h : ∀ c ix, d ≠ sqD c ix) : swOf tl l d = none := by
  cases d with
  | lst ix => exact (h true ix rfl).elim
  | tup ix => exact (h false ix rfl).elim
  | _ => rfl
theorem w_swapped (K : Fg) (E : XK) : OkD K (tabs K) E (F_swapped K) 4 1 (t_swapped K E) := by
  rintro ds P X ⟨b, l, tl, d, rfl, hw, ht, ⟨⟨n, hn⟩, hix⟩, p1, p2⟩
  refine ⟨rfl, ?_⟩
  unfold t_swapped sp_check_word sp_check_ties sp_word_behind sp_BadPart___init
  show SW K _ E X _ [.val (sqD b (l.map ltD)), .val (.tup tl), .val d, .emp] _ _ _ _
  obtain ⟨q, q', k1, k2, k3, k4, _⟩ := kit_sq2 hn
  have raise : ∀ {Γ : List Ent} {N C : List Ent → Prop} {R : Rt → List Ent → Prop} {B : List Ent → Prop}, swOf tl l d = none → SW K (tabs K) E X (tRz (He.ga K "BadPart") (spX (He.ga K "BadPart") "part") E (tCons (tC (.str "indexes")) tNil)) Γ N R B C := fun h => by
    repeat walk_at "lp"
    exact p1 h
  walk_at "lp"
  refine s_drop ?_
  repeat walk_at "lp"
  refine ⟨b, l, rfl, hw, ?_⟩
  walk_at "lp"
  refine s_drop ?_
  repeat walk_at "lp"
  have ht' := ht
  obtain ⟨tt, rfl, ht⟩ := ht
  refine ⟨tt, rfl, ht, ?_⟩
  walk_at "lp"
  refine s_asgIf ?_
  repeat walk_at "lp"
  refine ⟨n, q, q', hn, k1, k2, bb (fun h => ?_) fun h => ?_⟩
  · obtain ⟨c, ix, rfl⟩ := k3 h
    refine s_asgC ?_
    repeat walk_at "lp"
    refine ⟨b, l, _, c, ix, rfl, hw, ht', (hix c ix rfl).1, fun e => ⟨fun d e2 => ?_, fun es e2 => (nomatch e2), fun d es e2 => nomatch e2⟩, fun r e => ⟨fun d e2 => (nomatch e2), fun es e2 p hp => ?_, fun d es e2 => nomatch e2⟩⟩
    · cases e2
      repeat walk_at "lp"
      refine bt ?_
      exact raise (by rw [swOf_sq]; exact e)
    · cases e2
      repeat walk_at "lp"
      refine bf ?_
      walk_at "lp"
      exact s_retO rfl (p2 r (by rw [swOf_sq]; exact e))
  · repeat walk_at "lp"
    refine bt ?_
    exact raise (swOf_no (k4 h))
theorem w_are_swaps (K : Fg) (E : XK) : OkD K (tabs K) E (F_are_swaps K) 4 0 (t_are_swaps K E) := by
  rintro ds P X ⟨b, l, b', l', tl, d, rfl, hw, hw', ht, ⟨⟨n, hn⟩, hix⟩, p⟩
  refine ⟨rfl, ?_⟩
  unfold t_are_swaps sp_check_words sp_word_behind
  show SW K _ E X _ [.val (sqD b (l.map ltD)), .val (sqD b' (l'.map ltD)), .val (.tup tl), .val d] _ _ _ _
  obtain ⟨q, q', k1, k2, _, _, k5, k6⟩ := kit_sq2 hn
  walk_at "lp"
  refine s_drop ?_
  repeat walk_at "lp"
  refine ⟨b, l, b', l', tl, rfl, hw, hw', ht, ?_⟩
  repeat walk_at "lp"
  refine ⟨n, q, hn, k1, bb (fun h => ?_) fun h => ?_⟩
  · obtain ⟨ix, rfl⟩ := k5 h
    have fin : ∀ o : Option (List Lt), lwSwap tl ix l = o → EB K (tabs K) E X (tCB (uList K) (tCons (tVar 1) tNil)) [.val (sqD b (l.map ltD)), .val (sqD b' (l'.map ltD)), .val (.tup tl), .val (.lst ix)] fun y => Okd (resD o) ∧ Okd y ∧ P (.val (.bl (eqD (resD o) y))) := fun o e => by
      repeat walk_at "lp"
      refine ⟨b', _, rfl, by rw [← e]; exact okd_res hw, okd_word hw', ?_⟩
      rw [← e]
      exact p
    repeat walk_at "lp"
    refine ⟨b, l, tl, true, ix, rfl, hw, ht, (hix true ix rfl).1, fun e => fin none e, fun r e => fin (some r) e⟩
  · have e : jdB tl l l' d = false := by
      cases d with
      | lst ix => exact (k6 h ix rfl).elim
      | _ => rfl
    rw [e] at p
    exact p
theorem w_law_lw_swapped (K : Fg) (E : XK) : OkD K (tabs K) E (F_law_lw_swapped K) 5 2 (t_law_lw_swapped K E) := by
  rintro ds P X ⟨l, tl, ix, rfl, hw, ht, hix, p1⟩
  refine ⟨rfl, ?_⟩
  unfold t_law_lw_swapped sp_law_lw_is_bound
  show SW K _ E X _ [.val (.lst (l.map ltD)), .val (.tup tl), .val (.lst ix), .emp, .emp] _ _ _ _
  walk_at "lp"
  refine s_asgO ?_
  repeat walk_at "lp"
  refine ⟨true, _, rfl, fun p hp => ?_⟩
  walk_at "lp"
  refine s_for ?_
  repeat walk_at "lp"
  refine .inl ⟨true, ix, rfl, fun i Γ' => ∃ now e, Γ' = [.val (.lst (l.map ltD)), .val (.tup tl), .val (.lst ix), .own p (now.map ltD), e] ∧ noOwn Γ' 4 = true ∧ WordOk now ∧ lwSwap tl ix l = lwSwap tl (ix.drop i) now, [4], ⟨l, .emp, rfl, rfl, hw, rfl⟩, fun i d Γ' hd iv => ?_, fun Γ' iv => ?_⟩
  · obtain ⟨now, e, rfl, n4, hn, eq⟩ := iv
    rw [swap_drop hd] at eq
    obtain ⟨n, hty⟩ := hix d (List.mem_of_getElem? hd)
    obtain ⟨b1, e1, e1'⟩ := kit_int d n hty
    obtain ⟨b2, e2, e2'⟩ := kit_bool d n hty
    have no : lwStep tl now d = none → SW K (tabs K) E X (tRet (tC .non)) [.val (.lst (l.map ltD)), .val (.tup tl), .val (.lst ix), .own p (now.map ltD), .val d]
        (fun Γ' => SW K (tabs K) E X (tSeq (tIfS (tB (tCall (spD K (tabs K) (F_law_lw_is_bound K)) [] eN (tCons (tVar 1) (tCons (tOp (rIx K) (tOp (rIx K) (tVar 3) (tVar 4)) (tC (.int 0))) (tCons (tOp (rIx K) (tOp (rIx K) (tVar 3) (tOp (uAdd K) (tVar 4) (tC (.int 1)))) (tC (.int 0))) tNil))))) (tRet (tC .non)) tNext)
          (tAsg (tTup (tCons (tOp (rIx K) (tVar 3) (tOp (uAdd K) (tVar 4) (tC (.int 1)))) (tCons (tOp (rIx K) (tVar 3) (tVar 4)) tNil))) (gTup K 2 (gCons (gSub (tVar 3) (tVar 4) rSetL) (gCons (gSub (tVar 3) (tOp (uAdd K) (tVar 4) (tC (.int 1))) rSetL) gNil))))) Γ'
          (fun Γ' => ∃ now e, Γ' = [.val (.lst (l.map ltD)), .val (.tup tl), .val (.lst ix), .own p (now.map ltD), e] ∧ noOwn Γ' 4 = true ∧ WordOk now ∧ lwSwap tl ix l = lwSwap tl (ix.drop (i + 1)) now) (fun r x => P r) (fun Γ' => SW K (tabs K) E X (tRet (tVar 3)) Γ' (fun x => P (.val .non)) (fun r x => P r) (fun x => False) fun x => False)
          (fun Γ' => ∃ now e, Γ' = [.val (.lst (l.map ltD)), .val (.tup tl), .val (.lst ix), .own p (now.map ltD), e] ∧ noOwn Γ' 4 = true ∧ WordOk now ∧ lwSwap tl ix l = lwSwap tl (ix.drop (i + 1)) now)) (fun r x => P r)
        (fun Γ' => SW K (tabs K) E X (tRet (tVar 3)) Γ' (fun x => P (.val .non)) (fun r x => P r) (fun x => False) fun x => False)
        (fun Γ' => ∃ now e, Γ' = [.val (.lst (l.map ltD)), .val (.tup tl), .val (.lst ix), .own p (now.map ltD), e] ∧ noOwn Γ' 4 = true ∧ WordOk now ∧ lwSwap tl ix l = lwSwap tl (ix.drop (i + 1)) now) := fun hno => by
      repeat walk_at "lp"
      rw [hno] at eq
      have p1' := p1
      rw [eq] at p1'
      exact p1'
    refine g_p (p_name (by simp) n4 ?_)
    repeat walk_at "lp"
    refine ⟨n, b1, hty, e1, nob (fun hb => ?_) fun hb => ⟨fun _ => ?_, fun z => nomatch z⟩⟩
    · repeat walk_at "lp"
      refine ⟨n, b2, hty, e2, ob' (fun hb2 => ?_) fun hb2 => ⟨fun _ => ?_, fun z => nomatch z⟩⟩
      · have hint : ∃ k : Int, d = .int k := by
          subst e1' e2'
          cases d with
          | int k => exact ⟨k, rfl⟩
          | bl _ => cases hb2
          | _ => cases hb
        obtain ⟨k, rfl⟩ := hint
        repeat walk_at "lp"
        refine ⟨0, k, rfl, rfl, fun h0 => ?_, fun h0 => nbf ?_⟩
        · repeat walk_at "lp"
          refine .inl ⟨true, _, rfl, ?_⟩
          repeat walk_at "lp"
          refine ⟨_, _, rfl, rfl, _, rfl, nbb (fun h1 => ?_) fun h1 => ?_⟩
          · refine no (step_no ?_)
            simp [btwB] at h0 h1 ⊢
            omega
          · have hbt : btwB (.int k) 0 ((now.length : Int) - 2) = true := by
              simp [btwB] at h0 h1 ⊢
              omega
            obtain ⟨k', x, y, ek, hx, hy⟩ := btw_yes hbt
            injection ek with ek
            subst ek
            have h1 := (List.getElem?_eq_some_iff.mp hx).1
            have h2 := (List.getElem?_eq_some_iff.mp hy).1
            have hxm : (now.map ltD)[k']? = some (ltD x) := by rw [List.getElem?_map, hx]; rfl
            have hym : (now.map ltD)[k' + 1]? = some (ltD y) := by rw [List.getElem?_map, hy]; rfl
            have ex1 : ((k' : Nat) : Int) + 1 = ((k' + 1 : Nat) : Int) := by omega
            have okx := hn.1 x (List.mem_of_getElem? hx)
            have oky := hn.1 y (List.mem_of_getElem? hy)
            have i1 : ixN (now.map ltD).length ((k' : Nat) : Int) = some k' := ixN_of (by rw [List.length_map]; exact h1)
            have i2 : ixN (now.map ltD).length (((k' : Nat) : Int) + 1) = some (k' + 1) := by rw [ex1]; exact ixN_of (by rw [List.length_map]; exact h2)
            have stp := step_int (tl := tl) hx hy
            repeat walk_at "lp"
            refine ⟨true, _, _, k', ltD x, rfl, rfl, i1, hxm, ?_⟩
            walk_at "lp"
            refine ⟨false, _, 0, 0, .str x.1, rfl, rfl, rfl, rfl, ?_⟩
            repeat walk_at "lp"
            refine x_add ?_
            repeat walk_at "lp"
            refine ⟨_, _, rfl, rfl, true, _, _, k' + 1, ltD y, rfl, rfl, i2, hym, ?_⟩
            walk_at "lp"
            refine ⟨false, _, 0, 0, .str y.1, rfl, rfl, rfl, rfl, ?_⟩
            walk_at "lp"
            refine ⟨tl, x.1, y.1, rfl, ht, okx.1.2.2.2, oky.1.2.2.2, bb (fun hb => ?_) fun hb => ?_⟩
            · repeat walk_at "lp"
              have p1' := p1
              rw [eq, stp, if_pos hb] at p1'
              exact p1'
            · walk_at "lp"
              refine s_asgG (L := []) ?_
              repeat walk_at "lp"
              refine x_add ?_
              repeat walk_at "lp"
              refine ⟨_, _, rfl, rfl, true, _, _, k' + 1, ltD y, rfl, rfl, i2, hym, ?_⟩
              repeat walk_at "lp"
              refine ⟨true, _, _, k', ltD x, rfl, rfl, i1, hxm, ?_⟩
              walk_at "lp"
              refine ⟨by show 2 ≤ sizeLine; decide, ?_⟩
              refine g_tup rfl (gs_cons (g_sub rfl ?_))
              walk_at "lp"
              refine ⟨_, k', rfl, i1, ?_⟩
              refine gs_cons (g_sub rfl ?_)
              refine x_add ?_
              repeat walk_at "lp"
              refine ⟨_, _, rfl, rfl, _, k' + 1, rfl, by rw [List.length_set]; exact i2, ?_⟩
              refine gs_nil ⟨swapAt now k' x y, .val (.int (k' : Nat)), ?_, rfl, swap_ok hx hy hn, ?_⟩
              · show [_, _, _, Ent.own p (swapAt (now.map ltD) k' (ltD x) (ltD y)), Ent.val (.int (k' : Nat))] = _
                rw [swap_map]
              · rw [eq, stp, if_neg (by rw [hb]; simp)]; rfl
        · refine no (step_no ?_)
          simp [btwB] at h0 ⊢
          omega
      · refine no ?_
        subst e2'
        cases d <;> first | rfl | cases hb2
    · refine no ?_
      subst e1'
      cases d <;> first | rfl | cases hb
  · obtain ⟨now, e, rfl, n4, hn, eq⟩ := iv
    refine s_forget (i := 3) rfl ?_
    repeat walk_at "lp"
    have p1' := p1
    rw [eq, List.drop_length] at p1'
    exact p1'
end Lp.K68

set_option Elab.async false
set_option linter.all false
set_option maxRecDepth 100000
set_option maxHeartbeats 4000000
/-! W3: the jar, the draws, the ear. Own work. -/
namespace Lp.K68
open PySem PySem.Spec PyProof.Rows L2 LamX Lp
local macro_rules | `(tactic| walk_at "lp") => `(tactic| first
  | with_reducible refine s_seq ?_
  | with_reducible refine s_if ?_
  | with_reducible refine s_ret ?_
  | with_reducible refine s_next ?_
  | with_reducible refine s_asg ?_
  | with_reducible refine t_test ?_
  | with_reducible refine t_val ?_
  | with_reducible refine t_and ?_
  | with_reducible refine t_or ?_
  | with_reducible refine t_not ?_
  | ((with_reducible apply x_var); (focus rfl))
  | with_reducible refine x_non ?_
  | with_reducible refine x_bl ?_
  | with_reducible refine x_int ?_
  | with_reducible refine x_str ?_
  | with_reducible refine x_and ?_
  | with_reducible refine x_or ?_
  | with_reducible refine x_not ?_
  | with_reducible refine x_if ?_
  | with_reducible refine x_isi ?_
  | with_reducible refine x_isi2 ?_
  | with_reducible refine x_len ?_
  | with_reducible refine x_eq ?_
  | with_reducible refine x_ne ?_
  | with_reducible refine x_ix ?_
  | with_reducible refine x_tup ?_
  | with_reducible refine x_callP ?_
  | ((with_reducible apply x_callJ); (focus rfl))
  | with_reducible refine a_cons ?_
  | with_reducible refine a_nil ?_
  | ((with_reducible apply b_own); (focus rfl))
  | ((with_reducible apply b_var); (focus rfl))
  | with_reducible refine EX.eb ?_
  | with_reducible refine l_list ?_
  | with_reducible refine l_lst ?_
  | with_reducible refine l_sl ?_
  | with_reducible refine l_revL ?_
  | with_reducible refine l_sortS ?_
  | ((with_reducible refine l_lc ?_ ?_); (focus rfl))
  | with_reducible refine i_u ?_
  | with_reducible refine i_rng1 ?_
  | with_reducible refine i_rng2 ?_
  | with_reducible refine i_enum ?_
  | with_reducible refine x_isNB ?_
  | with_reducible refine x_notNB ?_
  | with_reducible refine x_tuple ?_
  | with_reducible refine x_int1 ?_
  | with_reducible refine x_bool1 ?_
  | with_reducible refine x_str1 ?_
  | with_reducible refine x_max2 ?_
  | with_reducible refine x_sub ?_
  | with_reducible refine x_mod ?_
  | with_reducible refine x_fdiv ?_
  | with_reducible refine x_pow ?_
  | with_reducible refine x_gt ?_
  | with_reducible refine x_ge ?_
  | with_reducible refine x_le ?_
  | with_reducible refine x_neg ?_
  | with_reducible refine s_retN ?_
  | with_reducible refine s_raise ?_
  | with_reducible refine s_brk ?_
  | with_reducible refine s_ct ?_
  | with_reducible refine le_le ?_
  | with_reducible refine le_lt ?_
  | with_reducible refine o_no ?_
  | with_reducible refine tyes ?_
  | with_reducible refine x_l_lst ?_
  | with_reducible refine x_l_lc ?_
  | with_reducible refine x_l_list ?_
  | with_reducible refine x_l_sort ?_
  | with_reducible refine x_l_sl ?_
  | with_reducible refine x_l_rev ?_
  | with_reducible refine o_at ?_)
def ExmF (K : Fg) : Prop := PySem.W.exmOne K (.ref (He.ga K "BadPart")) (.ref (He.ga K "BadPart")) = some true
theorem w_law_heard_swapped {K : Fg} (hE : ExmF K) (E : XK) : OkD K (tabs K) E (F_law_heard_swapped K) 3 0 (t_law_heard_swapped K E) := by
  rintro ds P X ⟨b, l, tl, d, rfl, hw, ht, hix, p1, p2⟩
  refine ⟨rfl, ?_⟩
  unfold t_law_heard_swapped sp_swapped
  show SW K _ E X _ [.val (sqD b (l.map ltD)), .val (.tup tl), .val d] _ _ _ _
  refine s_told (X' := fun C fs => C = He.ga K "BadPart" ∧ fs = ([("part", Dt.str "indexes")] : List (Str × Dt)) ∧ swOf tl l d = none) (fun E' => ?_) (fun C fs hc => ?_) rfl
  · repeat walk_at "lp"
    exact ⟨b, l, tl, d, rfl, hw, ht, hix, fun e => ⟨rfl, rfl, e⟩, fun r e => ⟨fun d e2 => (nomatch e2), fun es e2 => by cases e2; exact p2 r e, fun d es e2 => (nomatch e2)⟩⟩
  · obtain ⟨rfl, rfl, hn⟩ := hc
    exact ⟨true, hE, fun _ => ⟨rfl, .str "indexes", rfl, p1 hn⟩, fun z => (nomatch z)⟩
theorem w_law_heard_judged (K : Fg) (E : XK) : OkD K (tabs K) E (F_law_heard_judged K) 4 0 (t_law_heard_judged K E) := by
  rintro ds P X ⟨b, l, b', l', tl, d, rfl, hw, hw', ht, hix, p⟩
  refine ⟨rfl, ?_⟩
  unfold t_law_heard_judged sp_are_swaps
  show SW K _ E X _ [.val (sqD b (l.map ltD)), .val (sqD b' (l'.map ltD)), .val (.tup tl), .val d] _ _ _ _
  walk_at "lp"
  refine x_told (Pt := fun z => z = .bl (jdB tl l l' d)) (X' := noX) (fun E' => ?_) (fun z e => by rw [e]; exact p) (fun _ _ z => z.elim) rfl
  repeat walk_at "lp"
  exact ⟨b, l, b', l', tl, d, rfl, hw, hw', ht, hix, rfl⟩
theorem w_law_yq_is_whole (K : Fg) (E : XK) : OkD K (tabs K) E (F_law_yq_is_whole K) 1 0 (t_law_yq_is_whole K E) := w_is_integer K E
theorem log2_lt {m : Int} (h1 : 0 < m) (h2 : m < 2 ^ 62) : m.natAbs.log2 < 9000 := by
  have h3 : m.natAbs < 2 ^ 62 := by omega
  have : m.natAbs.log2 < 62 := (Nat.log2_lt (by omega)).mpr h3
  omega
theorem w_law_take (K : Fg) : OkJO K (tabs K) (F_law_take K) 3 1 (t_law_take K eN) := by
  rintro E j a b c ds P ⟨m, rfl, hm1, hm2, p⟩ hb1 hb2
  refine ⟨rfl, ?_⟩
  unfold t_law_take
  show SW K _ E _ _ [.own j (intsD [a, b, c]), .val (.int m), .emp] _ _ _ _
  have hlog := log2_lt hm1 hm2
  repeat walk_at "lp"
  refine ⟨true, _, 0, 0, .int a, rfl, rfl, rfl, rfl, ?_⟩
  walk_at "lp"
  refine ⟨a, 0, rfl, rfl, bb (fun h => ?_) fun h => ?_⟩
  · repeat walk_at "lp"
    refine ⟨true, _, 0, 0, .int a, rfl, rfl, rfl, rfl, a, rfl, ?_⟩
    walk_at "lp"
    refine ⟨a, m, rfl, rfl, hm1, ?_⟩
    walk_at "lp"
    refine s_asgG (L := []) ?_
    repeat walk_at "lp"
    refine ⟨true, _, 0, 0, .int a, rfl, rfl, rfl, rfl, ?_⟩
    walk_at "lp"
    refine ⟨a, m, rfl, rfl, ⟨hm1, hlog⟩, ?_⟩
    refine g_sub rfl ?_
    walk_at "lp"
    refine ⟨0, 0, rfl, rfl, ?_⟩
    repeat walk_at "lp"
    exact ⟨⟨_, rfl⟩, p _ (Int.emod_nonneg _ (by omega)) (Int.emod_lt_of_pos _ hm1), a / m, b, c, rfl, hb1, hb2⟩
  · repeat walk_at "lp"
    refine s_asgG (L := []) ?_
    refine x_add ?_
    repeat walk_at "lp"
    refine ⟨true, _, 2, 2, .int c, rfl, rfl, rfl, rfl, ?_⟩
    walk_at "lp"
    refine ⟨c, 1, rfl, rfl, ?_⟩
    refine g_sub rfl ?_
    walk_at "lp"
    refine ⟨2, 2, rfl, rfl, ?_⟩
    walk_at "lp"
    refine s_asgG (L := []) ?_
    repeat walk_at "lp"
    refine x_add (x_add (x_mul ?_))
    repeat walk_at "lp"
    refine ⟨true, intsD [a, b, c + 1], 1, 1, .int b, rfl, rfl, rfl, rfl, ?_⟩
    walk_at "lp"
    refine ⟨b, 39373, rfl, rfl, .inl (.inr (by decide)), ?_⟩
    refine x_mul ?_
    repeat walk_at "lp"
    refine ⟨true, intsD [a, b, c + 1], 2, 2, .int (c + 1), rfl, rfl, rfl, rfl, _, _, rfl, rfl, .inl (.inl (by decide)), _, _, rfl, rfl, ?_⟩
    walk_at "lp"
    refine ⟨_, _, rfl, rfl, _, rfl, ?_⟩
    walk_at "lp"
    refine ⟨_, _, rfl, rfl, by decide, ?_⟩
    refine g_sub rfl ?_
    walk_at "lp"
    refine ⟨1, 1, rfl, rfl, ?_⟩
    generalize hb' : (b * 39373 + 7919 * (c + 1) + 7) % 2147483647 = b'
    have hb3 : 0 ≤ b' := by rw [← hb']; exact Int.emod_nonneg _ (by decide)
    have hb4 : b' < 2147483647 := by rw [← hb']; exact Int.emod_lt_of_pos _ (by decide)
    repeat walk_at "lp"
    refine x_mul ?_
    repeat walk_at "lp"
    refine ⟨true, intsD [a, b', c + 1], 1, 1, .int b', rfl, rfl, rfl, rfl, ?_⟩
    repeat walk_at "lp"
    refine ⟨true, intsD [a, b', c + 1], 1, 1, .int b', rfl, rfl, rfl, rfl, _, _, rfl, rfl, .inl (.inl ⟨by omega, by omega⟩), _, rfl, ?_⟩
    walk_at "lp"
    refine ⟨_, _, rfl, rfl, by decide, ?_⟩
    walk_at "lp"
    refine ⟨_, _, rfl, rfl, ⟨by decide, by decide⟩, _, rfl, ?_⟩
    walk_at "lp"
    refine ⟨_, _, rfl, rfl, hm1, ⟨_, rfl⟩, p _ (Int.emod_nonneg _ (by omega)) (Int.emod_lt_of_pos _ hm1), a, b', c + 1, rfl, hb3, hb4⟩
theorem w_law_one (K : Fg) : OkJ K (tabs K) (F_law_one K) 2 0 (t_law_one K eN) := by
  rintro E j ds P ⟨b, xs, rfl, hne, hlen, p⟩
  refine ⟨rfl, ?_⟩
  unfold t_law_one sp_law_take
  show SW K _ E _ _ [.jar j, .val (sqD b xs)] _ _ _ _
  have hpos : 0 < xs.length := List.length_pos_iff.mpr hne
  repeat walk_at "lp"
  refine .inl ⟨b, xs, rfl, ?_⟩
  walk_at "lp"
  refine ⟨xs.length, rfl, by omega, by omega, fun i h1 h2 => ?_⟩
  obtain ⟨k, rfl⟩ := Int.eq_ofNat_of_zero_le h1
  have hk : k < xs.length := by omega
  exact ⟨b, xs, _, k, xs[k], rfl, rfl, ixN_of hk, List.getElem?_eq_getElem hk, p _ (List.getElem_mem hk)⟩
theorem pick_perm {α : Type} : ∀ {l : List α} {k : Nat} (h : k < l.length), (l[k] :: l.eraseIdx k).Perm l
  | x :: l, 0, _ => .refl _
  | x :: l, k + 1, h => by
    have h' : k < l.length := by simpa using h
    show (l[k] :: x :: l.eraseIdx k).Perm (x :: l)
    exact (List.Perm.swap _ _ _).trans (List.Perm.cons x (pick_perm h'))
theorem w_law_mixed (K : Fg) : OkJ K (tabs K) (F_law_mixed K) 5 3 (t_law_mixed K eN) := by
  rintro E j ds P ⟨xs, rfl, hlen, p⟩
  refine ⟨rfl, ?_⟩
  unfold t_law_mixed sp_law_take
  show SW K _ E _ _ [.jar j, .val (.lst xs), .emp, .emp, .emp] _ _ _ _
  walk_at "lp"
  refine s_parO ?_
  repeat walk_at "lp"
  refine ⟨true, xs, rfl, ?_⟩
  repeat walk_at "lp"
  refine ⟨by decide, fun p q hp hq hpq => ?_⟩
  walk_at "lp"
  refine s_for ?_
  repeat walk_at "lp"
  refine .inl ⟨true, xs, rfl, _, rfl, by omega, by omega, fun i Γ' => ∃ sp fo e, Γ' = [.jar j, .val (.lst xs), .own p sp, .own q fo, e] ∧ noOwn Γ' 4 = true ∧ (fo ++ sp).Perm xs ∧ fo.length = i, [4], ⟨xs, [], .emp, rfl, rfl, .refl _, rfl⟩, fun i d Γ' hd iv => ?_, fun Γ' iv => ?_⟩
  · obtain ⟨sp, fo, e, rfl, n4, hperm, hfo⟩ := iv
    obtain ⟨hi, rfl⟩ := rgD_get hd
    have hlt := hperm.length_eq
    rw [List.length_append] at hlt
    have hi' : i < xs.length := by omega
    refine g_p (p_name (by simp) n4 ?_)
    refine s_appPop (by decide) rfl rfl (by rw [hfo, sizeLine_eq]; omega) ?_
    repeat walk_at "lp"
    refine .inl ⟨true, sp, rfl, ?_⟩
    walk_at "lp"
    refine ⟨sp.length, rfl, by omega, by omega, fun m h1 h2 => ?_⟩
    obtain ⟨k, rfl⟩ := Int.eq_ofNat_of_zero_le h1
    have hk : k < sp.length := by omega
    refine ⟨_, k, sp[k], rfl, by omega, by omega, (ixN_seq (ixN_of hk)).1, List.getElem?_eq_getElem hk, sp.eraseIdx k, fo ++ [sp[k]], .val (.int (0 + (i : Nat))), rfl, rfl, ?_, by rw [List.length_append, hfo]; rfl⟩
    have h3 : (sp[k] :: sp.eraseIdx k).Perm sp := pick_perm hk
    rw [List.append_assoc]
    exact (List.Perm.append_left fo h3).trans hperm
  · obtain ⟨sp, fo, e, rfl, n4, hperm, hfo⟩ := iv
    have hlt := hperm.length_eq
    rw [List.length_append] at hlt
    rw [rgD_len] at hfo
    have h0 : sp = [] := List.eq_nil_of_length_eq_zero (by omega)
    subst h0
    rw [List.append_nil] at hperm
    exact s_retO rfl (‹∀ ys, ys.Perm xs → P (.new ys)› fo hperm)
theorem w_law_lw_handed (K : Fg) : OkJ K (tabs K) (F_law_lw_handed K) 2 0 (t_law_lw_handed K eN) := by
  rintro E j ds P ⟨xs, rfl, p⟩
  refine ⟨rfl, ?_⟩
  unfold t_law_lw_handed sp_law_one
  show SW K _ E _ _ [.jar j, .val (.lst xs)] _ _ _ _
  repeat walk_at "lp"
  refine ⟨true, xs, rfl, ?_⟩
  repeat walk_at "lp"
  refine ⟨true, xs, rfl, ?_⟩
  walk_at "lp"
  refine ⟨by show 2 ≤ sizeLine; decide, ?_⟩
  walk_at "lp"
  refine ⟨true, _, rfl, by simp, by show 2 ≤ 1000; decide, fun x hx => ?_⟩
  rcases List.mem_cons.mp hx with rfl | hx
  · exact p true
  · rw [List.mem_singleton.mp hx]; exact p false
end Lp.K68

set_option Elab.async false
set_option linter.all false
set_option maxRecDepth 100000
set_option maxHeartbeats 4000000
/-! W4: the pool; the sameness of data; letters. Own work. -/
namespace Lp.K68
open PySem PySem.Spec PyProof.Rows L2 LamX Lp
local macro_rules | `(tactic| walk_at "lp") => `(tactic| first
  | with_reducible refine s_seq ?_
  | with_reducible refine s_if ?_
  | with_reducible refine s_ret ?_
  | with_reducible refine s_next ?_
  | with_reducible refine s_asg ?_
  | with_reducible refine t_test ?_
  | with_reducible refine t_val ?_
  | with_reducible refine t_and ?_
  | with_reducible refine t_or ?_
  | with_reducible refine t_not ?_
  | ((with_reducible apply x_var); (focus rfl))
  | with_reducible refine x_non ?_
  | with_reducible refine x_bl ?_
  | with_reducible refine x_int ?_
  | with_reducible refine x_str ?_
  | with_reducible refine x_and ?_
  | with_reducible refine x_or ?_
  | with_reducible refine x_not ?_
  | with_reducible refine x_if ?_
  | with_reducible refine x_isi ?_
  | with_reducible refine x_isi2 ?_
  | with_reducible refine x_len ?_
  | with_reducible refine x_eq ?_
  | with_reducible refine x_ne ?_
  | with_reducible refine x_ix ?_
  | with_reducible refine x_tup ?_
  | with_reducible refine x_callP ?_
  | ((with_reducible apply x_callJ); (focus rfl))
  | with_reducible refine a_cons ?_
  | with_reducible refine a_nil ?_
  | ((with_reducible apply b_own); (focus rfl))
  | ((with_reducible apply b_var); (focus rfl))
  | with_reducible refine EX.eb ?_
  | with_reducible refine l_list ?_
  | with_reducible refine l_lst ?_
  | with_reducible refine l_sl ?_
  | with_reducible refine l_revL ?_
  | with_reducible refine l_sortS ?_
  | ((with_reducible refine l_lc ?_ ?_); (focus rfl))
  | with_reducible refine i_u ?_
  | with_reducible refine i_rng1 ?_
  | with_reducible refine i_rng2 ?_
  | with_reducible refine i_enum ?_
  | with_reducible refine x_isNB ?_
  | with_reducible refine x_notNB ?_
  | with_reducible refine x_tuple ?_
  | with_reducible refine x_int1 ?_
  | with_reducible refine x_bool1 ?_
  | with_reducible refine x_str1 ?_
  | with_reducible refine x_max2 ?_
  | with_reducible refine x_sub ?_
  | with_reducible refine x_mod ?_
  | with_reducible refine x_fdiv ?_
  | with_reducible refine x_pow ?_
  | with_reducible refine x_gt ?_
  | with_reducible refine x_ge ?_
  | with_reducible refine x_le ?_
  | with_reducible refine x_neg ?_
  | with_reducible refine s_retN ?_
  | with_reducible refine s_raise ?_
  | with_reducible refine s_brk ?_
  | with_reducible refine s_ct ?_
  | with_reducible refine le_le ?_
  | with_reducible refine le_lt ?_
  | with_reducible refine o_no ?_
  | with_reducible refine tyes ?_
  | with_reducible refine x_l_lst ?_
  | with_reducible refine x_l_lc ?_
  | with_reducible refine x_l_list ?_
  | with_reducible refine x_l_sort ?_
  | with_reducible refine x_l_sl ?_
  | with_reducible refine x_l_rev ?_
  | with_reducible refine o_at ?_)
theorem zero_add_nat (i : Nat) : (0 : Int) + (i : Nat) = (i : Nat) := by omega
theorem int_get {ns : List Int} {i : Nat} (h : i < ns.length) : (ns.map Dt.int)[i]? = some (.int ns[i]) := by
  rw [List.getElem?_map, List.getElem?_eq_getElem h]; rfl
theorem w_law_pool (K : Fg) (E : XK) : OkD K (tabs K) E (F_law_pool K) 5 4 (t_law_pool K E) := by
  rintro ds P X ⟨ns, rfl, hlen, hbits, p⟩
  refine ⟨rfl, ?_⟩
  unfold t_law_pool
  show SW K _ E X _ [.val (.lst (ns.map .int)), .emp, .emp, .emp, .emp] _ _ _ _
  walk_at "lp"
  refine s_asgG (L := [1, 2]) ?_
  repeat walk_at "lp"
  refine ⟨by show 2 ≤ sizeLine; decide, ?_⟩
  refine g_p (p_tup rfl (ps_cons (p_name (by simp) rfl (ps_cons (p_name (by simp) rfl (ps_nil ?_))))))
  walk_at "lp"
  refine s_for ?_
  repeat walk_at "lp"
  refine .inl ⟨true, ns.map .int, rfl, _, rfl, by rw [List.length_map]; omega, by rw [List.length_map]; omega, fun i Γ' => ∃ dg st e3 e4, Γ' = [.val (.lst (ns.map .int)), .val (.int dg), .val (.int st), e3, e4] ∧ noOwn Γ' 3 = true ∧ noOwn Γ' 4 = true ∧ 0 ≤ dg ∧ 0 ≤ st ∧ st < 2147483647, [3],
    ⟨0, 7, .emp, .emp, rfl, rfl, rfl, by decide, by decide, by decide⟩, fun i d Γ' hd iv => ?_, fun Γ' iv => ?_⟩
  · obtain ⟨dg, st, e3, e4, rfl, n3, n4, h1, h2, h3⟩ := iv
    obtain ⟨hi, rfl⟩ := rgD_get hd
    have hi' : i < ns.length := by rw [List.length_map] at hi; omega
    have hix : ixN (ns.map Dt.int).length (0 + (i : Nat)) = some i := by rw [zero_add_nat]; exact ixN_of (by rw [List.length_map]; exact hi')
    refine g_p (p_name (by simp) n3 ?_)
    repeat walk_at "lp"
    refine ⟨true, _, _, i, _, rfl, rfl, hix, int_get hi', _, rfl, ?_⟩
    repeat walk_at "lp"
    refine ⟨1, rfl, ?_⟩
    repeat walk_at "lp"
    refine ⟨true, _, _, i, _, rfl, rfl, hix, int_get hi', _, _, rfl, rfl, _, rfl, _, _, rfl, rfl, ?_⟩
    generalize (if -1 - ns[i] > ns[i] then -1 - ns[i] else ns[i]) = cell
    repeat walk_at "lp"
    refine x_add (x_add (x_mul ?_))
    repeat walk_at "lp"
    refine ⟨_, _, rfl, rfl, .inl (.inr (by decide)), ?_⟩
    repeat walk_at "lp"
    refine ⟨_, _, rfl, rfl, by decide, _, _, rfl, rfl, ?_⟩
    repeat walk_at "lp"
    refine ⟨_, _, rfl, rfl, _, rfl, ?_⟩
    repeat walk_at "lp"
    refine ⟨_, _, rfl, rfl, by decide, ?_⟩
    generalize hst : (st * 48271 + cell % 2147483629 + 11) % 2147483647 = st'
    have hs1 : 0 ≤ st' := by rw [← hst]; exact Int.emod_nonneg _ (by decide)
    have hs2 : st' < 2147483647 := by rw [← hst]; exact Int.emod_lt_of_pos _ (by decide)
    repeat walk_at "lp"
    refine ⟨10, 12, rfl, rfl, ⟨by decide, by decide, by decide⟩, cell, _, rfl, rfl, bb (fun hge => ?_) fun hge => ⟨fun z => (nomatch z), fun _ => ?_⟩⟩
    · walk_at "lp"
      refine x_ltV ?_
      repeat walk_at "lp"
      refine ⟨10, 60, rfl, rfl, ⟨by decide, by decide, by decide⟩, dg, _, rfl, rfl, bb (fun hlt => ?_) fun hlt => ?_⟩
      · have hdl : dg < 10 ^ 60 := of_decide_eq_true hlt
        walk_at "lp"
        refine x_add (x_mul ?_)
        repeat walk_at "lp"
        refine ⟨10, 60, rfl, rfl, ⟨by decide, by decide, by decide⟩, dg, _, rfl, rfl, .inr ?_, ?_⟩
        · show dg.natAbs.log2 + ((10 : Int) ^ (60 : Int).toNat).natAbs.log2 < 1000000
          have e1 : ((10 : Int) ^ (60 : Int).toNat).natAbs.log2 < 1000 := by decide +kernel
          have e2 : dg.natAbs < 10 ^ 60 := by omega
          have e3 : dg.natAbs.log2 < 1000 := by
            by_cases hz : dg.natAbs = 0
            · rw [hz]; decide
            · exact (Nat.log2_lt hz).mpr (Nat.lt_trans e2 (by decide +kernel))
          omega
        · repeat walk_at "lp"
          refine ⟨10, 60, rfl, rfl, ⟨by decide, by decide, by decide⟩, cell, _, rfl, rfl, by decide, _, _, rfl, rfl, _, rfl, ?_⟩
          refine ⟨_, _, _, _, rfl, rfl, rfl, ?_, hs1, hs2⟩
          have a1 : 0 ≤ dg * (10 : Int) ^ (60 : Int).toNat := Int.mul_nonneg h1 (by decide)
          have a2 : 0 ≤ cell % (10 : Int) ^ (60 : Int).toNat := Int.emod_nonneg _ (by decide)
          omega
      · walk_at "lp"
        exact ⟨_, _, _, _, rfl, rfl, rfl, h1, hs1, hs2⟩
    · walk_at "lp"
      exact ⟨_, _, _, _, rfl, rfl, rfl, h1, hs1, hs2⟩
  · obtain ⟨dg, st, e3, e4, rfl, n3, n4, h1, h2, h3⟩ := iv
    refine s_retL ?_
    repeat walk_at "lp"
    exact ⟨by show 3 ≤ sizeLine; decide, p dg st 0 h2 h3⟩
/-! ### sameness -/
theorem okd_itemL : ∀ {l : List Dt} {i : Nat} {x : Dt}, plainL l = true → PyData.canLayAll0 (toPyL l) = true → l[i]? = some x → plainB x = true ∧ (toPy x).canLay0 = true ∧ (toPy x).depth ≤ PyData.depthAll (toPyL l)
  | [], _, _, _, _, h => by cases h
  | y :: l, 0, x, h1, h2, h => by
    cases h
    simp only [plainL, Bool.and_eq_true] at h1
    simp only [toPyL, PyData.canLayAll0, Bool.and_eq_true] at h2
    exact ⟨h1.1, h2.1, by simp only [toPyL, PyData.depthAll]; exact Nat.le_max_left _ _⟩
  | y :: l, i + 1, x, h1, h2, h => by
    simp only [plainL, Bool.and_eq_true] at h1
    simp only [toPyL, PyData.canLayAll0, Bool.and_eq_true] at h2
    obtain ⟨a, b, c⟩ := okd_itemL (i := i) h1.2 h2.2 (by simpa using h)
    exact ⟨a, b, by simp only [toPyL, PyData.depthAll]; exact Nat.le_trans c (Nat.le_max_right _ _)⟩
theorem okd_item {b : Bool} {l : List Dt} {i n : Nat} {x : Dt} (ok : Okd (sqD b l)) (hd : (toPy (sqD b l)).depth ≤ n + 1) (h : l[i]? = some x) : Okd x ∧ (toPy x).depth ≤ n := by
  have h1 : plainL l = true := by cases b <;> simpa [sqD, plainB] using ok.1
  have h2 : PyData.canLayAll0 (toPyL l) = true := by
    have := SeqAt.canLay_of_shaped ok.2
    cases b <;> simpa [sqD, toPy, PyData.canLay0] using this
  have h3 : PyData.depthAll (toPyL l) ≤ n := by
    cases b <;> simp [sqD, toPy, PyData.depth] at hd <;> omega
  have h4 : PyData.depthAll (toPyL l) + 1 ≤ 64 := by
    have := SeqAt.depth_of_shaped ok.2
    cases b <;> simpa [sqD, toPy, PyData.depth] using this
  obtain ⟨a, c, d⟩ := okd_itemL h1 h2 h
  refine ⟨⟨a, ?_⟩, Nat.le_trans d h3⟩
  unfold SeqAt.shaped
  rw [Bool.and_eq_true_iff]
  exact ⟨c, decide_eq_true (by omega)⟩
theorem eqD_same {d : Dt} (h : Okd d) : eqD d d = true := SeqAt.eqv_refl _ (SeqAt.canLay_of_shaped h.2)
theorem sq_depth {b : Bool} {l : List Dt} : 1 ≤ (toPy (sqD b l)).depth := by cases b <;> simp [sqD, toPy, PyData.depth]
theorem no_law_yq_same {K : Fg} {vs : List V} {H : Hp} {Q : VK} {E : XK} (h : sp_law_yq_same 0 K vs H Q E) : False := by
  obtain ⟨_, _, _, _, _, _, _, f, _⟩ := h
  exact f
theorem kit_nb : kitB "NoneType" "bool" = some false := by decide +kernel
theorem kit_bb : kitB "bool" "bool" = some true := by decide +kernel
theorem kit_ib : kitB "int" "bool" = some false := by decide +kernel
theorem kit_ii : kitB "int" "int" = some true := by decide +kernel
theorem kit_sb : kitB "str" "bool" = some false := by decide +kernel
theorem kit_si : kitB "str" "int" = some false := by decide +kernel
theorem kit_sqb {b : Bool} : kitB (if b then "list" else "tuple") "bool" = some false := by cases b <;> decide +kernel
theorem kit_sqi {b : Bool} : kitB (if b then "list" else "tuple") "int" = some false := by cases b <;> decide +kernel
theorem kit_sqs {b : Bool} : kitB (if b then "list" else "tuple") "str" = some false := by cases b <;> decide +kernel
theorem isNon_sq {b : Bool} {l : List Dt} : isNon (sqD b l) = false := by cases b <;> rfl
theorem sz_sq {b : Bool} {l : List Dt} : szB (sqD b l) = (decide (l.length ≤ 100000) && szL l) := by cases b <;> rfl
theorem sz_item : ∀ {l : List Dt} {i : Nat} {x : Dt}, szL l = true → l[i]? = some x → szB x = true
  | [], _, _, _, h => by cases h
  | y :: l, 0, x, h1, h => by
    cases h
    simp only [szL, Bool.and_eq_true] at h1
    exact h1.1
  | y :: l, i + 1, x, h1, h => by
    simp only [szL, Bool.and_eq_true] at h1
    exact sz_item (i := i) h1.2 (by simpa using h)
theorem yq_seq (n : Nat) (K : Fg) (E : XK) {P : Rt → Prop} {X : XP} {b : Bool} {l : List Dt} (hok : Okd (sqD b l)) (hsz : szB (sqD b l) = true) (hdep : (toPy (sqD b l)).depth ≤ n) (p : P (.val (.bl true))) :
    SW K (tabs K) E X (t_law_yq_same n K E) [.val (sqD b l), .val (sqD b l), .emp] (fun _ => P (.val .non)) (fun r _ => P r) (fun _ => False) (fun _ => False) := by
  unfold t_law_yq_same
  rw [sz_sq, Bool.and_eq_true] at hsz
  have hlen : l.length ≤ 100000 := of_decide_eq_true hsz.1
  repeat walk_at "lp"
  rw [isNon_sq]
  refine bf ?_
  repeat walk_at "lp"
  refine ⟨_, false, ty_sq, kit_sqb, bf ?_⟩
  repeat walk_at "lp"
  refine ⟨_, false, ty_sq, kit_sqi, bf ?_⟩
  repeat walk_at "lp"
  refine ⟨_, false, ty_sq, kit_sqs, bf ?_⟩
  repeat walk_at "lp"
  refine ⟨_, !b, ty_sq, kit_sqt, ?_⟩
  have skip : SW K (tabs K) E X tNext [.val (sqD b l), .val (sqD b l), .emp] (fun Γ' => SW K (tabs K) E X (tSeq (tIfS (tTest (tOp (uNe K) (tCB (rIsi K) (tCons (tVar 1) (tCons (tC (.ty "tuple")) tNil))) (tCB (rIsi K) (tCons (tVar 0) (tCons (tC (.ty "tuple")) tNil))))) (tRet (tC (.bl false))) tNext)
    (tSeq (tIfS (tTest (tOp (uNe K) (tCB (rIsi K) (tCons (tVar 1) (tCons (tC (.ty "list")) tNil))) (tCB (rIsi K) (tCons (tVar 0) (tCons (tC (.ty "list")) tNil))))) (tRet (tC (.bl false))) tNext)
    (tSeq (tIfS (tTest (tOp (uNe K) (tCB (uLen K) (tCons (tVar 0) tNil)) (tCB (uLen K) (tCons (tVar 1) tNil)))) (tRet (tC (.bl false))) tNext)
    (tSeq (tFor (iRng1 (tCons (tCB (uLen K) (tCons (tVar 1) tNil)) tNil)) (gName 2) (tIfS (tNot (tB (tCall (sp_law_yq_same n K) [] eN (tCons (tOp (rIx K) (tVar 0) (tVar 2)) (tCons (tOp (rIx K) (tVar 1) (tVar 2)) tNil))))) (tRet (tC (.bl false))) tNext))
    (tRet (tC (.bl true))))))) Γ' (fun _ => P (.val .non)) (fun r _ => P r) (fun _ => False) (fun _ => False)) (fun r _ => P r) (fun _ => False) (fun _ => False) := by
    repeat walk_at "lp"
    refine ⟨_, !b, ty_sq, kit_sqt, ?_⟩
    repeat walk_at "lp"
    refine ⟨_, !b, ty_sq, kit_sqt, okd_bl _, okd_bl _, ?_⟩
    rw [eqD_same (okd_bl _)]
    refine bf ?_
    repeat walk_at "lp"
    refine ⟨_, b, ty_sq, kit_sql, ?_⟩
    repeat walk_at "lp"
    refine ⟨_, b, ty_sq, kit_sql, okd_bl _, okd_bl _, ?_⟩
    rw [eqD_same (okd_bl _)]
    refine bf ?_
    repeat walk_at "lp"
    refine .inl ⟨b, l, rfl, ?_⟩
    repeat walk_at "lp"
    refine .inl ⟨b, l, rfl, okd_int _, okd_int _, ?_⟩
    rw [eqD_same (okd_int _)]
    refine bf ?_
    repeat walk_at "lp"
    refine s_for ?_
    repeat walk_at "lp"
    refine .inl ⟨b, l, rfl, _, rfl, by omega, by omega, fun i Γ' => ∃ e, Γ' = [.val (sqD b l), .val (sqD b l), e] ∧ noOwn Γ' 2 = true, [2], ⟨.emp, rfl, rfl⟩, fun i d Γ' hd iv => ?_, fun Γ' iv => ?_⟩
    · obtain ⟨e, rfl, n2⟩ := iv
      obtain ⟨hi, rfl⟩ := rgD_get hd
      have hi' : i < l.length := by omega
      have hix : ixN l.length (0 + (i : Nat)) = some i := by rw [zero_add_nat]; exact ixN_of hi'
      have hx : l[i]? = some l[i] := List.getElem?_eq_getElem hi'
      have hn : 1 ≤ n := Nat.le_trans sq_depth hdep
      obtain ⟨m, rfl⟩ : ∃ m, n = m + 1 := ⟨n - 1, by omega⟩
      obtain ⟨ok1, dp1⟩ := okd_item hok hdep hx
      unfold sp_law_yq_same
      refine g_p (p_name (by simp) n2 ?_)
      repeat walk_at "lp"
      refine ⟨b, l, _, i, l[i], rfl, rfl, hix, hx, ?_⟩
      repeat walk_at "lp"
      refine ⟨b, l, _, i, l[i], rfl, rfl, hix, hx, ?_⟩
      walk_at "lp"
      refine ⟨l[i], rfl, ok1, sz_item hsz.2 hx, dp1, nbt ?_⟩
      repeat walk_at "lp"
      exact ⟨_, rfl, rfl⟩
    · obtain ⟨e, rfl, n2⟩ := iv
      repeat walk_at "lp"
      exact p
  cases b with
  | true =>
    refine nbf ?_
    repeat walk_at "lp"
    refine ⟨_, true, rfl, kit_ll, nbt ?_⟩
    exact skip
  | false =>
    refine nbt ⟨fun z => (nomatch z), fun _ => ?_⟩
    exact skip
theorem w_law_yq_same (n : Nat) (K : Fg) (E : XK) : OkD K (tabs K) E (F_law_yq_same (n + 1) K) 3 1 (t_law_yq_same n K E) := by
  rintro ds P X ⟨d, rfl, hok, hsz, hdep, p⟩
  refine ⟨rfl, ?_⟩
  show SW K _ E X _ [.val d, .val d, .emp] _ _ _ _
  cases d with
  | lst l => exact yq_seq (b := true) n K E hok hsz hdep p
  | tup l => exact yq_seq (b := false) n K E hok hsz hdep p
  | dct l => cases hok.1
  | obj C l => cases hok.1
  | non =>
    unfold t_law_yq_same
    repeat walk_at "lp"
    refine bt ?_
    repeat walk_at "lp"
    exact p
  | bl b =>
    unfold t_law_yq_same
    repeat walk_at "lp"
    refine bf ?_
    repeat walk_at "lp"
    refine ⟨_, true, rfl, kit_bb, bt ?_⟩
    repeat walk_at "lp"
    refine ⟨b, rfl, fun h => ?_, fun h => ?_⟩
    · subst h
      refine x_isB ?_
      repeat walk_at "lp"
      exact ⟨true, rfl, p⟩
    · subst h
      refine x_isB ?_
      repeat walk_at "lp"
      exact ⟨false, rfl, p⟩
  | int i =>
    unfold t_law_yq_same sp_law_yq_is_whole
    repeat walk_at "lp"
    refine bf ?_
    repeat walk_at "lp"
    refine ⟨_, false, rfl, kit_ib, bf ?_⟩
    repeat walk_at "lp"
    refine ⟨_, true, rfl, kit_ii, bt ?_⟩
    repeat walk_at "lp"
    refine ⟨.int i, rfl, ⟨_, rfl⟩, bt ?_⟩
    repeat walk_at "lp"
    refine ⟨hok, hok, ?_⟩
    rw [eqD_same hok]
    exact p
  | str s =>
    unfold t_law_yq_same
    repeat walk_at "lp"
    refine bf ?_
    repeat walk_at "lp"
    refine ⟨_, false, rfl, kit_sb, bf ?_⟩
    repeat walk_at "lp"
    refine ⟨_, false, rfl, kit_si, bf ?_⟩
    repeat walk_at "lp"
    refine ⟨_, true, rfl, kit_ss, bt ?_⟩
    repeat walk_at "lp"
    refine ⟨_, true, rfl, kit_ss, bt ?_⟩
    repeat walk_at "lp"
    refine ⟨hok, hok, ?_⟩
    rw [eqD_same hok]
    exact p
end Lp.K68

set_option Elab.async false
set_option linter.all false
set_option maxRecDepth 100000
set_option maxHeartbeats 4000000
/-! W5: names, letters, words, pairs. Own work. -/
namespace Lp.K68
open PySem PySem.Spec PyProof.Rows L2 LamX Lp
local macro_rules | `(tactic| walk_at "lp") => `(tactic| first
  | with_reducible refine s_seq ?_
  | with_reducible refine s_if ?_
  | with_reducible refine s_ret ?_
  | with_reducible refine s_next ?_
  | with_reducible refine s_asg ?_
  | with_reducible refine t_test ?_
  | with_reducible refine t_val ?_
  | with_reducible refine t_and ?_
  | with_reducible refine t_or ?_
  | with_reducible refine t_not ?_
  | ((with_reducible apply x_var); (focus rfl))
  | with_reducible refine x_non ?_
  | with_reducible refine x_bl ?_
  | with_reducible refine x_int ?_
  | with_reducible refine x_str ?_
  | with_reducible refine x_and ?_
  | with_reducible refine x_or ?_
  | with_reducible refine x_not ?_
  | with_reducible refine x_if ?_
  | with_reducible refine x_isi ?_
  | with_reducible refine x_isi2 ?_
  | with_reducible refine x_len ?_
  | with_reducible refine x_eq ?_
  | with_reducible refine x_ne ?_
  | with_reducible refine x_ix ?_
  | with_reducible refine x_tup ?_
  | with_reducible refine x_callP ?_
  | ((with_reducible apply x_callJ); (focus rfl))
  | with_reducible refine a_cons ?_
  | with_reducible refine a_nil ?_
  | ((with_reducible apply b_own); (focus rfl))
  | ((with_reducible apply b_var); (focus rfl))
  | with_reducible refine EX.eb ?_
  | with_reducible refine l_list ?_
  | with_reducible refine l_lst ?_
  | with_reducible refine l_sl ?_
  | with_reducible refine l_revL ?_
  | with_reducible refine l_sortS ?_
  | ((with_reducible refine l_lc ?_ ?_); (focus rfl))
  | with_reducible refine i_u ?_
  | with_reducible refine i_rng1 ?_
  | with_reducible refine i_rng2 ?_
  | with_reducible refine i_enum ?_
  | with_reducible refine x_isNB ?_
  | with_reducible refine x_notNB ?_
  | with_reducible refine x_tuple ?_
  | with_reducible refine x_int1 ?_
  | with_reducible refine x_bool1 ?_
  | with_reducible refine x_str1 ?_
  | with_reducible refine x_max2 ?_
  | with_reducible refine x_sub ?_
  | with_reducible refine x_mod ?_
  | with_reducible refine x_fdiv ?_
  | with_reducible refine x_pow ?_
  | with_reducible refine x_gt ?_
  | with_reducible refine x_ge ?_
  | with_reducible refine x_le ?_
  | with_reducible refine x_neg ?_
  | with_reducible refine s_retN ?_
  | with_reducible refine s_raise ?_
  | with_reducible refine s_brk ?_
  | with_reducible refine s_ct ?_
  | with_reducible refine le_le ?_
  | with_reducible refine le_lt ?_
  | with_reducible refine o_no ?_
  | with_reducible refine tyes ?_
  | with_reducible refine x_l_lst ?_
  | with_reducible refine x_l_lc ?_
  | with_reducible refine x_l_list ?_
  | with_reducible refine x_l_sort ?_
  | with_reducible refine x_l_sl ?_
  | with_reducible refine x_l_rev ?_
  | with_reducible refine o_at ?_)
theorem str_get {rs : List Str} {i : Nat} (h : i < rs.length) : (rs.map Dt.str)[i]? = some (.str rs[i]) := by
  rw [List.getElem?_map, List.getElem?_eq_getElem h]; rfl
theorem cut_take {ds : List Dt} {m : Nat} : cutD ds none (some (m : Nat)) = ds.take m := by
  unfold cutD
  rw [HT.sIx_none, HT.sIx_nat, List.drop_zero, Nat.sub_zero]
  rw [List.take_eq_take_iff]
  omega
theorem cut_drop {ds : List Dt} {m : Nat} : cutD ds (some (m : Nat)) none = ds.drop m := by
  unfold cutD
  rw [HT.sIx_none, HT.sIx_nat]
  by_cases h : m ≤ ds.length
  · rw [Nat.min_eq_left h, List.take_of_length_le (by rw [List.length_drop]; omega)]
  · rw [Nat.min_eq_right (by omega), List.drop_of_length_le (by omega), List.drop_of_length_le (by omega)]; simp
theorem w_law_lw_pairs (K : Fg) (E : XK) : OkD K (tabs K) E (F_law_lw_pairs K) 4 3 (t_law_lw_pairs K E) := by
  rintro ds P X ⟨rs, rfl, hlen, p⟩
  refine ⟨rfl, ?_⟩
  unfold t_law_lw_pairs
  show SW K _ E X _ [.val (.lst (rs.map .str)), .emp, .emp, .emp] _ _ _ _
  walk_at "lp"
  refine s_asgO ?_
  repeat walk_at "lp"
  refine ⟨by decide, fun a ha => ?_⟩
  walk_at "lp"
  refine s_for ?_
  repeat walk_at "lp"
  refine .inl ⟨true, _, rfl, _, rfl, by rw [List.length_map]; omega, by rw [List.length_map]; omega, fun i Γ' => ∃ (M : List (Str × Str)) (e : Ent), Γ' = [.val (.lst (rs.map .str)), .own a (M.map pairD), e, .emp] ∧ noOwn Γ' 2 = true ∧ pairsOf rs = M ++ pairsOf (rs.drop i) ∧ M.length ≤ 8 * i, [2],
    ⟨[], .emp, rfl, rfl, rfl, by simp⟩, fun i d Γ' hd iv => ?_, fun Γ' iv => ?_⟩
  · obtain ⟨M, e, rfl, n2, eq, hM⟩ := iv
    obtain ⟨hi, rfl⟩ := rgD_get hd
    have hi' : i < rs.length := by rw [List.length_map] at hi; omega
    have hix : ixN (rs.map Dt.str).length (0 + (i : Nat)) = some i := by rw [zero_add_nat]; exact ixN_of (by rw [List.length_map]; exact hi')
    refine g_p (p_name (by simp) n2 ?_)
    refine s_extend rfl ?_
    repeat walk_at "lp"
    refine x_add ?_
    repeat walk_at "lp"
    refine ⟨_, _, rfl, rfl, ?_⟩
    repeat walk_at "lp"
    refine .inl ⟨true, _, rfl, _, _, rfl, rfl, ⟨by omega, by omega, by rw [List.length_map]; omega, by rw [List.length_map]; omega⟩, ?_⟩
    have hn : (((rs.map Dt.str).length : Int) - (0 + (i : Nat) + 1)).toNat = rs.length - (i + 1) := by rw [List.length_map]; omega
    rw [hn, rgD_len]
    refine ⟨by rw [sizeLine_eq]; omega, fun k acc => acc = ((rs.drop (i + 1)).take k).map fun y => pairD (rs[i], y), rfl, fun k d acc hk _ e => ?_, fun acc _ e => ?_⟩
    · obtain ⟨hk', rfl⟩ := rgD_get hk
      have hj : i + 1 + k < rs.length := by omega
      have hjx : ixN (rs.map Dt.str).length (0 + (i : Nat) + 1 + (k : Nat)) = some (i + 1 + k) := by
        rw [show (0 : Int) + (i : Nat) + 1 + (k : Nat) = ((i + 1 + k : Nat) : Int) by omega]
        exact ixN_of (by rw [List.length_map]; exact hj)
      refine p_name (by simp) rfl (tyes ⟨fun _ => ?_, fun z => (nomatch z)⟩)
      repeat walk_at "lp"
      refine ⟨true, _, _, i, _, rfl, rfl, hix, str_get hi', ?_⟩
      repeat walk_at "lp"
      refine ⟨true, _, _, i + 1 + k, _, rfl, rfl, hjx, str_get hj, ?_⟩
      walk_at "lp"
      refine ⟨by show 2 ≤ sizeLine; decide, ?_⟩
      show acc ++ [pairD (rs[i], rs[i + 1 + k])] = _
      have e' : acc = ((rs.drop (i + 1)).take k).map fun y => pairD (rs[i], y) := e
      have hg : (rs.drop (i + 1))[k]? = some rs[i + 1 + k] := by rw [List.getElem?_drop, List.getElem?_eq_getElem hj]
      rw [e', List.take_succ, hg, List.map_append]
      rfl
    · have e' : acc = ((rs.drop (i + 1)).take (rs.length - (i + 1))).map fun y => pairD (rs[i], y) := e
      rw [List.take_of_length_le (by rw [List.length_drop]; omega)] at e'
      refine ⟨?_, M ++ (rs.drop (i + 1)).map (fun y => (rs[i], y)), .val (.int (0 + (i : Nat))), ?_, rfl, ?_, ?_⟩
      · rw [e', List.length_map, List.length_map, List.length_drop, sizeLine_eq]; omega
      · show [_, Ent.own a (M.map pairD ++ acc), _, _] = _
        rw [e', List.map_append, List.map_map]
        rfl
      · rw [eq, List.drop_eq_getElem_cons hi']
        show M ++ ((rs.drop (i + 1)).map (fun y => (rs[i], y)) ++ pairsOf (rs.drop (i + 1))) = _
        rw [List.append_assoc]
      · rw [List.length_append, List.length_map, List.length_drop]; omega
  · obtain ⟨M, e, rfl, n2, eq, hM⟩ := iv
    rw [List.length_map] at eq
    have e0 : pairsOf (rs.drop (rgD 0 ((rs.length : Nat) : Int).toNat).length) = [] := by
      rw [rgD_len, Int.toNat_natCast, List.drop_length]; rfl
    rw [e0, List.append_nil] at eq
    rw [← eq]
    exact s_retO rfl p
def theNames : List Str := ["a", "aa", "ab", "abcdefgh", "b", "ba", "c", "cab", "d", "dd", "f", "g", "h", "hh", "k", "m", "p", "q", "abcdefgi", "zzzzzzzz", "zzzzzzzy", "z", "xy", "yx"]
def okNameB (s : Str) : Bool := decide (1 ≤ s.length) && (decide (s.length ≤ 8) && ((s.cps.toList.all fun c => decide (c ∈ letters.cps.toList)) && strOkB s))
theorem okNameB_ok {s : Str} (h : okNameB s = true) : okName s := by
  obtain ⟨h1, h⟩ := ba2 h
  obtain ⟨h2, h⟩ := ba2 h
  obtain ⟨h3, h4⟩ := ba2 h
  exact ⟨of_decide_eq_true h1, of_decide_eq_true h2, fun c hc => of_decide_eq_true (List.all_eq_true.mp h3 c hc), h4⟩
theorem names_ok : theNames.all okNameB = true := by decide +kernel
theorem names_nd : theNames.Nodup := by decide +kernel
theorem w_law_lw_words_names (K : Fg) : OkJ K (tabs K) (F_law_lw_words_names K) 3 1 (t_law_lw_words_names K eN) := by
  rintro E j ds P ⟨m, rfl, hm, p⟩
  refine ⟨rfl, ?_⟩
  unfold t_law_lw_words_names sp_law_mixed
  show SW K _ E _ _ [.jar j, .val (.int (m : Nat)), .emp] _ _ _ _
  walk_at "lp"
  refine s_asgO ?_
  repeat walk_at "lp"
  refine ⟨by show 17 ≤ sizeLine; decide, fun a ha => ?_⟩
  repeat walk_at "lp"
  refine x_l (l_catM ?_)
  refine m_own rfl (EL.em ?_)
  repeat walk_at "lp"
  refine ⟨by show 7 ≤ sizeLine; decide, by show 17 + 7 ≤ sizeLine; decide, ?_⟩
  walk_at "lp"
  refine ⟨theNames.map .str, rfl, by show 24 ≤ 1000; decide, fun ys hp => ?_⟩
  repeat walk_at "lp"
  refine ⟨_, rfl, ys, rfl, ?_⟩
  rw [cut_take]
  obtain ⟨zs, hz, hzp⟩ : ∃ zs : List Str, ys = zs.map .str ∧ zs.Perm theNames := by
    have := hp
    exact perm_map this
  subst hz
  rw [← List.map_take]
  refine p _ ((hzp.nodup_iff.mpr names_nd).sublist (List.take_sublist _ _)) ?_ fun s hs => ?_
  · rw [List.length_take, hzp.length_eq]
    exact Nat.min_eq_left hm
  · exact okNameB_ok (List.all_eq_true.mp names_ok s (hzp.mem_iff.mp (List.mem_of_mem_take hs)))
where
  perm_map {ys : List Dt} {l : List Str} (h : ys.Perm (l.map .str)) : ∃ zs : List Str, ys = zs.map .str ∧ zs.Perm l := by
    have key : ∀ {a b : List Dt}, a.Perm b → ∀ l : List Str, b = l.map .str → ∃ zs : List Str, a = zs.map .str ∧ zs.Perm l := by
      intro a b h
      induction h with
      | nil => intro l e; exact ⟨[], rfl, by cases l with | nil => exact .refl _ | cons x l => cases e⟩
      | cons x h ih =>
        intro l e
        cases l with
        | nil => cases e
        | cons y l =>
          injection e with e1 e2
          obtain ⟨zs, h1, h2⟩ := ih l e2
          exact ⟨y :: zs, by rw [e1, h1]; rfl, h2.cons y⟩
      | swap x y l' =>
        intro l e
        cases l with
        | nil => cases e
        | cons u l =>
          cases l with
          | nil => injection e with e1 e2; cases e2
          | cons v l =>
            injection e with e1 e2
            injection e2 with e2 e3
            exact ⟨v :: u :: l, by rw [e1, e2, e3]; rfl, List.Perm.swap _ _ _⟩
      | trans h1 h2 i1 i2 =>
        intro l e
        obtain ⟨zs, e1, p1⟩ := i2 l e
        obtain ⟨ws, e2, p2⟩ := i1 zs e1
        exact ⟨ws, e2, p2.trans p1⟩
    exact key h l rfl
theorem w_law_lw_letter (K : Fg) : OkJ K (tabs K) (F_law_lw_letter K) 3 1 (t_law_lw_letter K eN) := by
  rintro E j ds P ⟨ns, rfl, ⟨hnd, hok, h2, h8⟩, p⟩
  refine ⟨rfl, ?_⟩
  unfold t_law_lw_letter sp_law_one sp_law_take
  show SW K _ E _ _ [.jar j, .val (.lst (ns.map .str)), .emp] _ _ _ _
  have draw : ∀ {Γ : List Ent} {Q : Dt → Prop}, Γ[0]? = some (.jar j) → (∀ v : Int, 0 ≤ v → v ≤ 2 → Q (.int v)) → EX K (tabs K) E noX (tCall (spJ K (tabs K) (F_law_take K)) [] eN (tCons (tVar 0) (tCons (tC (.int 3)) tNil))) Γ Q := fun hj hq => by
    refine x_callJ hj ?_
    repeat walk_at "lp"
    exact ⟨3, rfl, by decide, by decide, fun i h1 h2 => hq i h1 (by omega)⟩
  have tup0 : ∀ {Γ : List Ent} {Q : Dt → Prop}, Q (.tup []) → EX K (tabs K) E noX (tTup tNil) Γ Q := fun hq => x_tup (a_nil ⟨by decide, hq⟩)
  walk_at "lp"
  walk_at "lp"
  walk_at "lp"
  walk_at "lp"
  walk_at "lp"
  walk_at "lp"
  refine a_cons (tup0 (a_cons (tup0 ?_)))
  refine a_cons (x_tup (a_cons (x_int (a_nil ⟨by show 1 ≤ sizeLine; decide, ?_⟩))))
  refine a_cons (x_tup (a_cons (x_int (a_nil ⟨by show 1 ≤ sizeLine; decide, ?_⟩))))
  refine a_cons (x_tup (a_cons (draw rfl fun v1 a1 b1 => a_nil ⟨by show 1 ≤ sizeLine; decide, ?_⟩)))
  refine a_cons (x_tup (a_cons (draw rfl fun v2 a2 b2 => a_cons (draw rfl fun v3 a3 b3 => a_nil ⟨by show 2 ≤ sizeLine; decide, ?_⟩))))
  refine a_nil ⟨by show 6 ≤ sizeLine; decide, ?_⟩
  walk_at "lp"
  refine ⟨true, _, rfl, by simp, by show 6 ≤ 1000; decide, fun x hx => ?_⟩
  have hv : ∃ vs : List Int, x = .tup (vs.map .int) ∧ vs.length ≤ 2 ∧ ∀ v ∈ vs, 0 ≤ v ∧ v ≤ 2 := by
    simp only [List.mem_cons, List.not_mem_nil, or_false] at hx
    rcases hx with rfl | rfl | rfl | rfl | rfl | rfl
    · exact ⟨[], rfl, by decide, by simp⟩
    · exact ⟨[], rfl, by decide, by simp⟩
    · exact ⟨[0], rfl, by decide, by simp⟩
    · exact ⟨[1], rfl, by decide, by simp⟩
    · exact ⟨[v1], rfl, by simp, fun v h => by rw [List.mem_singleton.mp h]; exact ⟨a1, b1⟩⟩
    · refine ⟨[v2, v3], rfl, by simp, fun v h => ?_⟩
      rcases List.mem_cons.mp h with rfl | h
      · exact ⟨a2, b2⟩
      · rw [List.mem_singleton.mp h]; exact ⟨a3, b3⟩
  obtain ⟨vs, rfl, hvl, hvv⟩ := hv
  repeat walk_at "lp"
  refine ⟨true, _, rfl, by intro z; rw [List.map_eq_nil_iff] at z; rw [z] at h2; simp at h2, by rw [List.length_map]; omega, fun y hy => ?_⟩
  obtain ⟨nm, hnm, rfl⟩ := List.mem_map.mp hy
  repeat walk_at "lp"
  exact ⟨by show 2 ≤ sizeLine; decide, p (nm, vs) ⟨hok nm hnm, hvl, hvv⟩⟩
theorem w_law_lw_word (K : Fg) : OkJ K (tabs K) (F_law_lw_word K) 4 1 (t_law_lw_word K eN) := by
  rintro E j ds P ⟨ns, m, rfl, hns, hm, p⟩
  refine ⟨rfl, ?_⟩
  unfold t_law_lw_word sp_law_lw_letter
  show SW K _ E _ _ [.jar j, .val (.lst (ns.map .str)), .val (.int (m : Nat)), .emp] _ _ _ _
  repeat walk_at "lp"
  refine ⟨_, rfl, by omega, by omega, by rw [rgD_len, sizeLine_eq]; omega, fun i acc => ∃ l : List Lt, acc = l.map ltD ∧ l.length = i ∧ ∀ x ∈ l, okLt x, ⟨[], rfl, rfl, by simp⟩, fun i d acc hd _ e => ?_, fun acc _ e => ?_⟩
  · obtain ⟨l, rfl, hl, hok⟩ := e
    refine p_name (by simp) rfl (tyes ⟨fun _ => ?_, fun z => (nomatch z)⟩)
    repeat walk_at "lp"
    refine ⟨ns, rfl, hns, fun x hx => ⟨l ++ [x], by rw [List.map_append]; rfl, by rw [List.length_append, hl]; rfl, fun y hy => ?_⟩⟩
    rcases List.mem_append.mp hy with h | h
    · exact hok y h
    · rw [List.mem_singleton.mp h]; exact hx
  · obtain ⟨l, rfl, hl, hok⟩ := e
    rw [rgD_len, Int.toNat_natCast] at hl
    exact p l (by omega) ⟨hok, by omega⟩
end Lp.K68

set_option Elab.async false
set_option linter.all false
set_option maxRecDepth 100000
set_option maxHeartbeats 4000000
/-! W6: ties. Own work. -/
namespace Lp.K68
open PySem PySem.Spec PyProof.Rows L2 LamX Lp
local macro_rules | `(tactic| walk_at "lp") => `(tactic| first
  | with_reducible refine s_seq ?_
  | with_reducible refine s_if ?_
  | with_reducible refine s_ret ?_
  | with_reducible refine s_next ?_
  | with_reducible refine s_asg ?_
  | with_reducible refine t_test ?_
  | with_reducible refine t_val ?_
  | with_reducible refine t_and ?_
  | with_reducible refine t_or ?_
  | with_reducible refine t_not ?_
  | ((with_reducible apply x_var); (focus rfl))
  | with_reducible refine x_non ?_
  | with_reducible refine x_bl ?_
  | with_reducible refine x_int ?_
  | with_reducible refine x_str ?_
  | with_reducible refine x_and ?_
  | with_reducible refine x_or ?_
  | with_reducible refine x_not ?_
  | with_reducible refine x_if ?_
  | with_reducible refine x_isi ?_
  | with_reducible refine x_isi2 ?_
  | with_reducible refine x_len ?_
  | with_reducible refine x_eq ?_
  | with_reducible refine x_ne ?_
  | with_reducible refine x_ix ?_
  | with_reducible refine x_tup ?_
  | with_reducible refine x_callP ?_
  | ((with_reducible apply x_callJ); (focus rfl))
  | with_reducible refine a_cons ?_
  | with_reducible refine a_nil ?_
  | ((with_reducible apply b_own); (focus rfl))
  | ((with_reducible apply b_var); (focus rfl))
  | with_reducible refine EX.eb ?_
  | with_reducible refine l_list ?_
  | with_reducible refine l_lst ?_
  | with_reducible refine l_sl ?_
  | with_reducible refine l_revL ?_
  | with_reducible refine l_sortS ?_
  | ((with_reducible refine l_lc ?_ ?_); (focus rfl))
  | with_reducible refine i_u ?_
  | with_reducible refine i_rng1 ?_
  | with_reducible refine i_rng2 ?_
  | with_reducible refine i_enum ?_
  | with_reducible refine x_isNB ?_
  | with_reducible refine x_notNB ?_
  | with_reducible refine x_tuple ?_
  | with_reducible refine x_int1 ?_
  | with_reducible refine x_bool1 ?_
  | with_reducible refine x_str1 ?_
  | with_reducible refine x_max2 ?_
  | with_reducible refine x_sub ?_
  | with_reducible refine x_mod ?_
  | with_reducible refine x_fdiv ?_
  | with_reducible refine x_pow ?_
  | with_reducible refine x_gt ?_
  | with_reducible refine x_ge ?_
  | with_reducible refine x_le ?_
  | with_reducible refine x_neg ?_
  | with_reducible refine s_retN ?_
  | with_reducible refine s_raise ?_
  | with_reducible refine s_brk ?_
  | with_reducible refine s_ct ?_
  | with_reducible refine le_le ?_
  | with_reducible refine le_lt ?_
  | with_reducible refine o_no ?_
  | with_reducible refine tyes ?_
  | with_reducible refine x_l_lst ?_
  | with_reducible refine x_l_lc ?_
  | with_reducible refine x_l_list ?_
  | with_reducible refine x_l_sort ?_
  | with_reducible refine x_l_sl ?_
  | with_reducible refine x_l_rev ?_
  | with_reducible refine o_at ?_)
theorem nlt_of : ∀ {a b : List Nat}, ¬ b < a → a ≠ b → a < b
  | [], [], _, h => (h rfl).elim
  | [], _ :: _, _, _ => List.nil_lt_cons ..
  | _ :: _, [], h, _ => (h (List.nil_lt_cons ..)).elim
  | x :: a, y :: b, h, hne => by
    rcases Nat.lt_trichotomy x y with q | q | q
    · exact List.cons_lt_cons_iff.mpr (.inl q)
    · subst q
      exact List.cons_lt_cons_iff.mpr (.inr ⟨rfl, nlt_of (fun z => h (List.cons_lt_cons_iff.mpr (.inr ⟨rfl, z⟩))) fun z => hne (by rw [z])⟩)
    · exact (h (List.cons_lt_cons_iff.mpr (.inl q))).elim
theorem nlt_trans : ∀ {a b c : List Nat}, a < b → b < c → a < c
  | _, _, [], _, h => absurd h (List.not_lt_nil _)
  | [], _, _ :: _, _, _ => List.nil_lt_cons ..
  | _ :: _, [], _, h, _ => absurd h (List.not_lt_nil _)
  | x :: a, y :: b, z :: c, h1, h2 => by
    rcases List.cons_lt_cons_iff.mp h1 with q | ⟨q, r⟩
    · rcases List.cons_lt_cons_iff.mp h2 with q2 | ⟨q2, r2⟩
      · exact List.cons_lt_cons_iff.mpr (.inl (Nat.lt_trans q q2))
      · subst q2; exact List.cons_lt_cons_iff.mpr (.inl q)
    · subst q
      rcases List.cons_lt_cons_iff.mp h2 with q2 | ⟨q2, r2⟩
      · exact List.cons_lt_cons_iff.mpr (.inl q2)
      · exact List.cons_lt_cons_iff.mpr (.inr ⟨q2, nlt_trans r r2⟩)
theorem nlt_irrefl : ∀ {a : List Nat}, ¬ a < a
  | [], h => absurd h (List.not_lt_nil _)
  | x :: a, h => by
    rcases List.cons_lt_cons_iff.mp h with q | ⟨_, r⟩
    · exact Nat.lt_irrefl _ q
    · exact nlt_irrefl r
theorem str_inj {a b : Str} (h : a.cps.toList = b.cps.toList) : a = b := by
  obtain ⟨a⟩ := a
  obtain ⟨b⟩ := b
  obtain ⟨a⟩ := a
  obtain ⟨b⟩ := b
  cases h
  rfl
theorem rising_pw : ∀ {l : List Str} {p : Str}, risingS p l = true → (p :: l).Nodup → (p :: l).Pairwise ltS
  | [], p, _, _ => List.pairwise_singleton _ _
  | x :: l, p, h, nd => by
    have h' : (!ltCps x.cps.toList p.cps.toList && risingS x l) = true := h
    obtain ⟨h1, h2⟩ := ba2 h'
    obtain ⟨n1, n2⟩ := List.nodup_cons.mp nd
    have ih := rising_pw h2 n2
    have hne : p ≠ x := fun z => n1 (by rw [z]; simp)
    have hpx : ltS p x := by
      refine nlt_of (fun z => ?_) fun z => hne (str_inj z)
      have : ltCps x.cps.toList p.cps.toList = true := by rw [ltCps_eq]; exact decide_eq_true z
      rw [this] at h1; cases h1
    refine List.pairwise_cons.mpr ⟨fun y hy => ?_, ih⟩
    rcases List.mem_cons.mp hy with rfl | hy
    · exact hpx
    · exact nlt_trans hpx ((List.pairwise_cons.mp ih).1 y hy)
theorem sorted_pw {l : List Str} (h : sortedS l = true) (nd : l.Nodup) : l.Pairwise ltS := by
  cases l with
  | nil => exact .nil
  | cons x l => exact rising_pw h nd
theorem pairs_mem : ∀ {rs : List Str} {p : Str × Str}, rs.Pairwise ltS → p ∈ pairsOf rs → p.1 ∈ rs ∧ p.2 ∈ rs ∧ ltS p.1 p.2
  | x :: rs, p, h, hp => by
    obtain ⟨h1, h2⟩ := List.pairwise_cons.mp h
    rcases List.mem_append.mp (show p ∈ rs.map (fun y => (x, y)) ++ pairsOf rs from hp) with hp | hp
    · obtain ⟨y, hy, rfl⟩ := List.mem_map.mp hp
      exact ⟨by simp, by simp [hy], h1 y hy⟩
    · obtain ⟨a, b, c⟩ := pairs_mem h2 hp
      exact ⟨List.mem_cons_of_mem _ a, List.mem_cons_of_mem _ b, c⟩
theorem lts_ne {a b : Str} (h : ltS a b) : a ≠ b := fun z => by rw [z] at h; exact nlt_irrefl h
theorem pairs_pw : ∀ {rs : List Str}, rs.Pairwise ltS → (pairsOf rs).Pairwise fun p q => ltPB p q = true
  | [], _ => .nil
  | x :: rs, h => by
    obtain ⟨h1, h2⟩ := List.pairwise_cons.mp h
    show (rs.map (fun y => (x, y)) ++ pairsOf rs).Pairwise _
    refine List.pairwise_append.mpr ⟨List.pairwise_map.mpr (h2.imp fun {a b} hab => ?_), pairs_pw h2, fun p hp q hq => ?_⟩
    · show (if x = x then decide (a.cps.toList < b.cps.toList) && !decide (a = b) else _) = true
      rw [if_pos rfl, decide_eq_true (show a.cps.toList < b.cps.toList from hab), decide_eq_false (lts_ne hab)]
      rfl
    · obtain ⟨y, hy, rfl⟩ := List.mem_map.mp hp
      have hx := h1 q.1 (pairs_mem h2 hq).1
      show (if x = q.1 then _ else decide (x.cps.toList < q.1.cps.toList)) = true
      rw [if_neg (lts_ne hx)]
      exact decide_eq_true hx
theorem pairs_len : ∀ {rs : List Str}, (pairsOf rs).length ≤ rs.length * rs.length
  | [] => by simp [pairsOf]
  | x :: rs => by
    have ih := pairs_len (rs := rs)
    show (rs.map (fun y => (x, y)) ++ pairsOf rs).length ≤ (rs.length + 1) * (rs.length + 1)
    rw [List.length_append, List.length_map, Nat.add_mul, Nat.mul_add]
    omega
theorem pairs_ok {rs : List Str} (h : rs.Pairwise ltS) (hok : ∀ s ∈ rs, okName s) (hl : rs.length ≤ 8) : TiesOk (pairsOf rs) := by
  refine ⟨fun p hp => ?_, pairs_pw h, ?_⟩
  · obtain ⟨a, b, c⟩ := pairs_mem h hp
    exact ⟨hok _ a, hok _ b, c⟩
  · have := pairs_len (rs := rs)
    have h2 : rs.length * rs.length ≤ 8 * 8 := Nat.mul_le_mul hl hl
    omega
theorem ties_sub {l m : List (Str × Str)} (h : m.Sublist l) (ok : TiesOk l) : TiesOk m := ⟨fun p hp => ok.1 p (h.subset hp), ok.2.1.sublist h, Nat.le_trans h.length_le ok.2.2⟩
theorem okd_pairs {M : List (Str × Str)} (h : ∀ p ∈ M, strOkB p.1 = true ∧ strOkB p.2 = true) : Okd (.lst (M.map pairD)) := by
  obtain ⟨i1, i2, i3⟩ := ties_lay h
  refine ⟨by simpa [plainB] using i1, ?_⟩
  simp [SeqAt.shaped, toPy, PyData.canLay0, PyData.depth, i2]
  omega
theorem okd_strs {rs : List Str} (h : ∀ s ∈ rs, okName s) : Okd (.lst (rs.map .str)) := by
  have key : ∀ {rs : List Str}, (∀ s ∈ rs, okName s) → plainL (rs.map .str) = true ∧ PyData.canLayAll0 (toPyL (rs.map .str)) = true ∧ PyData.depthAll (toPyL (rs.map .str)) = 0 := by
    intro rs
    induction rs with
    | nil => intro _; exact ⟨rfl, rfl, rfl⟩
    | cons s rs ih =>
      intro h
      obtain ⟨i1, i2, i3⟩ := ih fun t ht => h t (by simp [ht])
      refine ⟨by simp [plainL, plainB, i1], ?_, by simp [toPyL, toPy, PyData.depthAll, PyData.depth, i3]⟩
      simp [toPyL, toPy, PyData.canLayAll0, PyData.canLay0, i2]
      exact (h s (by simp)).2.2.2
  obtain ⟨i1, i2, i3⟩ := key h
  refine ⟨by simpa [plainB] using i1, ?_⟩
  simp [SeqAt.shaped, toPy, PyData.canLay0, PyData.depth, i2, i3]
theorem ixN_ex {n : Nat} {i : Int} (h1 : -(n : Int) ≤ i) (h2 : i < n) : ∃ k, ixN n i = some k ∧ k < n := by
  unfold ixN
  by_cases h : 0 ≤ i
  · rw [if_pos h, if_pos h2]; exact ⟨_, rfl, by omega⟩
  · rw [if_neg h, if_pos h1]; exact ⟨_, rfl, by omega⟩
def PrOk (acc : List Dt) : Prop := ∃ M : List (Str × Str), acc = M.map pairD ∧ ∀ p ∈ M, strOkB p.1 = true ∧ strOkB p.2 = true
theorem pr_nil : PrOk [] := ⟨[], rfl, by simp⟩
theorem pr_snoc {acc : List Dt} {a b : Str} (h : PrOk acc) (h1 : strOkB a = true) (h2 : strOkB b = true) : PrOk (acc ++ [.tup [.str a, .str b]]) := by
  obtain ⟨M, rfl, hM⟩ := h
  refine ⟨M ++ [(a, b)], by rw [List.map_append]; rfl, fun p hp => ?_⟩
  rcases List.mem_append.mp hp with h | h
  · exact hM p h
  · rw [List.mem_singleton.mp h]; exact ⟨h1, h2⟩
theorem str_item {l : List Str} {i : Nat} {d : Dt} (h : (l.map Dt.str)[i]? = some d) : ∃ s, l[i]? = some s ∧ d = .str s := by
  rw [List.getElem?_map] at h
  cases hx : l[i]? with
  | none => rw [hx] at h; cases h
  | some s => rw [hx] at h; exact ⟨s, rfl, (Option.some.inj h).symm⟩
theorem strs_perm {ys : List Dt} {l : List Str} (h : ys.Perm (l.map .str)) : ∃ zs : List Str, ys = zs.map .str ∧ zs.Perm l := w_law_lw_words_names.perm_map h
theorem w_law_lw_ties (K : Fg) : OkJ K (tabs K) (F_law_lw_ties K) 13 11 (t_law_lw_ties K eN) := by
  rintro E j ds P ⟨ns, rfl, ⟨hnd, hok, h2, h8⟩, p⟩
  refine ⟨rfl, ?_⟩
  unfold t_law_lw_ties sp_law_lw_pairs sp_law_mixed sp_law_take
  show SW K _ E _ _ [.jar j, .val (.lst (ns.map .str)), .emp, .emp, .emp, .emp, .emp, .emp, .emp, .emp, .emp, .emp, .emp] _ _ _ _
  repeat walk_at "lp"
  refine .inl ⟨true, _, rfl, by rw [List.length_map, sizeLine_eq]; omega, fun i acc => acc = (ns.take i).map .str, rfl, fun i d acc hd _ e => ?_, fun acc _ e => ?_⟩
  · refine p_name (by simp) rfl (tyes ⟨fun _ => ?_, fun z => (nomatch z)⟩)
    rw [List.getElem?_map] at hd
    cases hx : ns[i]? with
    | none => rw [hx] at hd; cases hd
    | some s =>
      rw [hx] at hd
      cases hd
      repeat walk_at "lp"
      refine ⟨s, rfl, ?_⟩
      show acc ++ [.str s] = (ns.take (i + 1)).map .str
      rw [show acc = (ns.take i).map .str from e, List.take_succ, hx, List.map_append]
      rfl
  have e' : acc = ns.map .str := by
    have : acc = (ns.take (ns.map Dt.str).length).map .str := e
    rw [List.length_map, List.take_length] at this
    exact this
  subst e'
  refine ⟨ns, rfl, by omega, fun rs hp hs => ?_⟩
  have rnd : rs.Nodup := hp.nodup_iff.mpr hnd
  have rpw := sorted_pw hs rnd
  have rok : ∀ s ∈ rs, okName s := fun s h => hok s (hp.mem_iff.mp h)
  have rlen : rs.length = ns.length := hp.length_eq
  have tok : TiesOk (pairsOf rs) := pairs_ok rpw rok (by omega)
  repeat walk_at "lp"
  refine ⟨rs, rfl, by omega, ?_⟩
  walk_at "lp"
  refine s_asgG (L := [5, 6]) ?_
  repeat walk_at "lp"
  refine ⟨rs.map .str, rfl, by rw [List.length_map]; omega, fun ys hpy => ?_⟩
  obtain ⟨line, rfl, hline⟩ := strs_perm hpy
  have lok : ∀ s ∈ line, okName s := fun s h => rok s (hline.mem_iff.mp h)
  have llen : line.length = rs.length := hline.length_eq
  repeat walk_at "lp"
  refine ⟨8, rfl, by decide, by decide, fun so s1 s2 => ?_⟩
  walk_at "lp"
  refine ⟨by show 2 ≤ sizeLine; decide, ?_⟩
  refine g_p (p_tup rfl (ps_cons (p_name (by simp) rfl (ps_cons (p_name (by simp) rfl (ps_nil ?_))))))
  -- the end, whatever was made
  have fin : ∀ (M : List (Str × Str)) (e8 e9 e10 e11 e12 : Ent), (∀ p ∈ M, strOkB p.1 = true ∧ strOkB p.2 = true) → noOwn [e12] 0 = true →
      SW K (tabs K) E noX (tRet (tCB (uTuple K) (tCons (tLc (iU K (tVar 4)) (gName 12) (tOr (tTest (tOp (vIn K) (tVar 12) (tVar 7))) (tTest (tOp (vIn K) (tTup (tCons (tOp (rIx K) (tVar 12) (tC (.int 1))) (tCons (tOp (rIx K) (tVar 12) (tC (.int 0))) tNil))) (tVar 7)))) (tVar 12) [12]) tNil)))
        [.jar j, .val (.lst (ns.map .str)), .val (.lst (rs.map .str)), .emp, .val (.lst ((pairsOf rs).map pairD)), .val (.lst (line.map .str)), .val (.int so), .val (.lst (M.map pairD)), e8, e9, e10, e11, e12] (fun _ => P (.val .non)) (fun r _ => P r) (fun _ => False) (fun _ => False) := by
    intro M e8 e9 e10 e11 e12 hM h12
    walk_at "lp"
    walk_at "lp"
    walk_at "lp"
    walk_at "lp"
    refine l_lc (by rw [List.all_cons, List.all_nil, Bool.and_true]; exact h12) ?_
    repeat walk_at "lp"
    refine .inl ⟨true, _, rfl, by rw [List.length_map, sizeLine_eq]; have := tok.2.2; omega, fun i acc => ∃ m : List (Str × Str), acc = m.map pairD ∧ m.Sublist ((pairsOf rs).take i), ⟨[], rfl, by simp⟩, fun i d acc hd _ e => ?_, fun acc _ e => ?_⟩
    · obtain ⟨pr, hpr, rfl⟩ := pairD_get hd
      obtain ⟨m, rfl, hm⟩ := e
      have htk : (pairsOf rs).take (i + 1) = (pairsOf rs).take i ++ [pr] := by rw [List.take_succ, hpr]; rfl
      have hpok := tok.1 pr (List.mem_of_getElem? hpr)
      have o1 := hpok.1.2.2.2
      have o2 := hpok.2.1.2.2.2
      refine p_name (by simp) (by
        show noOwn (wipeG _ [12]) 12 = true
        rfl) ?_
      have yes : ∃ m' : List (Str × Str), m.map pairD ++ [pairD pr] = m'.map pairD ∧ m'.Sublist ((pairsOf rs).take (i + 1)) := ⟨m ++ [pr], by rw [List.map_append]; rfl, by rw [htk]; exact hm.append (List.Sublist.refl _)⟩
      have no : ∃ m' : List (Str × Str), m.map pairD = m'.map pairD ∧ m'.Sublist ((pairsOf rs).take (i + 1)) := ⟨m, rfl, by rw [htk]; exact hm.trans (List.sublist_append_left _ _)⟩
      repeat walk_at "lp"
      refine x_in ?_
      repeat walk_at "lp"
      refine ⟨_, .inr rfl, okd_pair o1 o2, okd_pairs hM, ob' (fun h => ?_) fun h => ⟨fun _ => ?_, fun z => (nomatch z)⟩⟩
      · repeat walk_at "lp"
        refine x_in ?_
        repeat walk_at "lp"
        refine ⟨false, _, 1, 1, .str pr.2, rfl, rfl, rfl, rfl, ?_⟩
        repeat walk_at "lp"
        refine ⟨false, _, 0, 0, .str pr.1, rfl, rfl, rfl, rfl, ?_⟩
        repeat walk_at "lp"
        refine ⟨by show 2 ≤ sizeLine; decide, ?_⟩
        repeat walk_at "lp"
        refine ⟨_, .inr rfl, okd_pair o2 o1, okd_pairs hM, bb (fun h => ?_) fun h => no⟩
        repeat walk_at "lp"
        exact yes
      · repeat walk_at "lp"
        exact yes
    · obtain ⟨m, rfl, hm⟩ := e
      exact ⟨true, _, rfl, p _ ⟨m, rfl, ties_sub (hm.trans (List.take_sublist _ _)) tok⟩⟩
  have finP : ∀ (acc : List Dt) (e8 e9 e10 e11 e12 : Ent), PrOk acc → noOwn [e12] 0 = true →
      SW K (tabs K) E noX (tRet (tCB (uTuple K) (tCons (tLc (iU K (tVar 4)) (gName 12) (tOr (tTest (tOp (vIn K) (tVar 12) (tVar 7))) (tTest (tOp (vIn K) (tTup (tCons (tOp (rIx K) (tVar 12) (tC (.int 1))) (tCons (tOp (rIx K) (tVar 12) (tC (.int 0))) tNil))) (tVar 7)))) (tVar 12) [12]) tNil)))
        [.jar j, .val (.lst (ns.map .str)), .val (.lst (rs.map .str)), .emp, .val (.lst ((pairsOf rs).map pairD)), .val (.lst (line.map .str)), .val (.int so), .val (.lst acc), e8, e9, e10, e11, e12] (fun _ => P (.val .non)) (fun r _ => P r) (fun _ => False) (fun _ => False) := by
    intro acc e8 e9 e10 e11 e12 ⟨M, ha, hM⟩ h
    subst ha
    exact fin M e8 e9 e10 e11 e12 hM h
  have lk : ∀ {i : Nat} (h : i < line.length), strOkB line[i] = true := fun h => (lok _ (List.getElem_mem h)).2.2.2
  have llb : line.length ≤ 8 := by omega
  have prAll : PrOk ((pairsOf rs).map pairD) := ⟨pairsOf rs, rfl, fun p hp => ⟨(tok.1 p hp).1.2.2.2, (tok.1 p hp).2.1.2.2.2⟩⟩
  have elen : ((pairsOf rs).map pairD).length ≤ sizeLine := by rw [List.length_map, sizeLine_eq]; have := tok.2.2; omega
  repeat walk_at "lp"
  refine ⟨okd_int _, okd_int _, bb (fun h => ?_) fun h => ?_⟩
  · repeat walk_at "lp"
    exact ⟨by decide, p [] ⟨[], rfl, ties_sub (List.nil_sublist _) tok⟩⟩
  repeat walk_at "lp"
  refine ⟨okd_int _, okd_int _, bb (fun h => ?_) fun h => ?_⟩
  · repeat walk_at "lp"
    exact ⟨true, _, rfl, p _ ⟨pairsOf rs, rfl, tok⟩⟩
  repeat walk_at "lp"
  refine ⟨okd_int _, okd_int _, bb (fun h => ?_) fun h => ?_⟩
  · repeat walk_at "lp"
    refine .inl ⟨true, _, rfl, ?_⟩
    repeat walk_at "lp"
    refine ⟨_, _, rfl, rfl, _, rfl, by rw [List.length_map]; omega, by rw [List.length_map]; omega, by rw [rgD_len, List.length_map, sizeLine_eq]; omega, fun _ acc => PrOk acc, pr_nil, fun i d acc hd _ e => ?_, fun acc _ e => ?_⟩
    · obtain ⟨hi, rfl⟩ := rgD_get hd
      rw [List.length_map] at hi
      have h1 : i < line.length := by omega
      have h2 : i + 1 < line.length := by omega
      refine p_name (by simp) rfl (tyes ⟨fun _ => ?_, fun z => (nomatch z)⟩)
      repeat walk_at "lp"
      refine ⟨true, _, _, i, _, rfl, rfl, by rw [zero_add_nat]; exact ixN_of (by rw [List.length_map]; exact h1), str_get h1, ?_⟩
      repeat walk_at "lp"
      refine x_add ?_
      repeat walk_at "lp"
      refine ⟨_, _, rfl, rfl, true, _, _, i + 1, _, rfl, rfl, by rw [show (0 : Int) + (i : Nat) + 1 = ((i + 1 : Nat) : Int) by omega]; exact ixN_of (by rw [List.length_map]; exact h2), str_get h2, ?_⟩
      walk_at "lp"
      exact ⟨by show 2 ≤ sizeLine; decide, pr_snoc e (lk h1) (lk h2)⟩
    · exact finP acc .emp .emp .emp .emp .emp e rfl
  repeat walk_at "lp"
  refine ⟨okd_int _, okd_int _, bb (fun h => ?_) fun h => ?_⟩
  · repeat walk_at "lp"
    refine .inl ⟨true, _, rfl, ?_⟩
    walk_at "lp"
    refine ⟨_, _, rfl, rfl, bb (fun hg => ?_) fun hg => ?_⟩
    · repeat walk_at "lp"
      refine .inl ⟨true, _, rfl, _, rfl, by rw [List.length_map]; omega, by rw [List.length_map]; omega, by rw [rgD_len, List.length_map, sizeLine_eq]; omega, fun _ acc => PrOk acc, pr_nil, fun i d acc hd _ e => ?_, fun acc _ e => ?_⟩
      · obtain ⟨hi, rfl⟩ := rgD_get hd
        rw [List.length_map] at hi
        have h1 : i < line.length := by omega
        obtain ⟨k, hk1, hk2⟩ := ixN_ex (n := line.length) (i := 0 + (i : Nat) - 1) (by omega) (by omega)
        refine p_name (by simp) rfl (tyes ⟨fun _ => ?_, fun z => (nomatch z)⟩)
        repeat walk_at "lp"
        refine ⟨_, _, rfl, rfl, true, _, _, k, _, rfl, rfl, by rw [List.length_map]; exact hk1, str_get hk2, ?_⟩
        repeat walk_at "lp"
        refine ⟨true, _, _, i, _, rfl, rfl, by rw [zero_add_nat]; exact ixN_of (by rw [List.length_map]; exact h1), str_get h1, ?_⟩
        walk_at "lp"
        exact ⟨by show 2 ≤ sizeLine; decide, pr_snoc e (lk hk2) (lk h1)⟩
      · exact finP acc .emp .emp .emp .emp .emp e rfl
    · walk_at "lp"
      exact finP _ .emp .emp .emp .emp .emp prAll rfl
  repeat walk_at "lp"
  refine ⟨okd_int _, okd_int _, bb (fun h => ?_) fun h => ?_⟩
  · repeat walk_at "lp"
    have ec : cutD (line.map Dt.str) (some 1) none = (line.drop 1).map Dt.str := by
      rw [show (some (1 : Int)) = some ((1 : Nat) : Int) from rfl, cut_drop, List.map_drop]
    refine ⟨1, rfl, ?_⟩
    walk_at "lp"
    refine ⟨_, rfl, ?_⟩
    rw [ec]
    refine .inl ⟨true, _, rfl, by rw [List.length_map, List.length_drop, sizeLine_eq]; omega, fun _ acc => PrOk acc, pr_nil, fun i d acc hd _ e => ?_, fun acc _ e => ?_⟩
    · obtain ⟨s, hs, rfl⟩ := str_item hd
      have hsm : s ∈ line := List.mem_of_mem_drop (List.mem_of_getElem? hs)
      have h1 : 0 < line.length := List.length_pos_of_mem hsm
      refine p_name (by simp) rfl (tyes ⟨fun _ => ?_, fun z => (nomatch z)⟩)
      repeat walk_at "lp"
      refine ⟨true, _, _, 0, _, rfl, rfl, ixN_of (k := 0) (by rw [List.length_map]; exact h1), str_get h1, ?_⟩
      repeat walk_at "lp"
      exact ⟨by show 2 ≤ sizeLine; decide, pr_snoc e (lk h1) (lok s hsm).2.2.2⟩
    · exact finP acc .emp .emp .emp .emp .emp e rfl
  repeat walk_at "lp"
  refine ⟨okd_int _, okd_int _, bb (fun h => ?_) fun h => ?_⟩
  · repeat walk_at "lp"
    refine .inl ⟨true, _, rfl, ?_⟩
    walk_at "lp"
    refine ⟨_, _, rfl, rfl, ⟨by decide, by decide⟩, _, rfl, _, rfl, ?_⟩
    have ec : cutD (line.map Dt.str) none (some (((line.map Dt.str).length : Int) / 2)) = (line.take (line.length / 2)).map Dt.str := by
      rw [List.length_map, show ((line.length : Nat) : Int) / 2 = ((line.length / 2 : Nat) : Int) by omega, cut_take, List.map_take]
    rw [ec]
    have okH : Okd (.lst ((line.take (line.length / 2)).map .str)) := okd_strs fun s hs => lok s (List.mem_of_mem_take hs)
    repeat walk_at "lp"
    refine .inl ⟨true, _, rfl, elen, fun _ acc => PrOk acc, pr_nil, fun i d acc hd _ e => ?_, fun acc _ e => ?_⟩
    · obtain ⟨pr, hpr, rfl⟩ := pairD_get hd
      have hpok := tok.1 pr (List.mem_of_getElem? hpr)
      have o1 := hpok.1.2.2.2
      have o2 := hpok.2.1.2.2.2
      refine p_tup rfl (ps_cons (p_name (by simp) rfl (ps_cons (p_name (by simp) rfl (ps_nil ?_)))))
      walk_at "lp"
      refine x_eq (EX.eb ?_)
      refine x_in ?_
      repeat walk_at "lp"
      refine ⟨_, .inr rfl, okd_str o1, okH, ?_⟩
      walk_at "lp"
      refine x_in ?_
      repeat walk_at "lp"
      refine ⟨_, .inr rfl, okd_str o2, okH, okd_bl _, okd_bl _, bb (fun h => ?_) fun h => e⟩
      repeat walk_at "lp"
      exact ⟨by show 2 ≤ sizeLine; decide, pr_snoc e o1 o2⟩
    · exact finP acc .emp .emp _ .emp .emp e rfl
  repeat walk_at "lp"
  refine .inl ⟨true, _, rfl, elen, fun _ acc => PrOk acc, pr_nil, fun i d acc hd _ e => ?_, fun acc _ e => ?_⟩
  · obtain ⟨pr, hpr, rfl⟩ := pairD_get hd
    have hpok := tok.1 pr (List.mem_of_getElem? hpr)
    have o1 := hpok.1.2.2.2
    have o2 := hpok.2.1.2.2.2
    refine p_name (by simp) rfl ?_
    have drawn : ∀ m : Int, 0 < m → m < 2 ^ 62 → F_law_take K [.int m] fun r => EB K (tabs K) E noX (tC (.int 0)) ((wipeG [.jar j, .val (.lst (ns.map .str)), .val (.lst (rs.map .str)), .emp, .val (.lst ((pairsOf rs).map pairD)), .val (.lst (line.map .str)), .val (.int so), .emp, .emp, .emp, .emp, .emp, .emp] [12]).set 12 (.val (pairD pr)))
        fun y => Okd r.dt ∧ Okd y ∧ ∃ c, Dt.bl (eqD r.dt y) = .bl c ∧ ((c = true → EX K (tabs K) E noX (tVar 12) ((wipeG [.jar j, .val (.lst (ns.map .str)), .val (.lst (rs.map .str)), .emp, .val (.lst ((pairsOf rs).map pairD)), .val (.lst (line.map .str)), .val (.int so), .emp, .emp, .emp, .emp, .emp, .emp] [12]).set 12 (.val (pairD pr))) fun y => PrOk (acc ++ [y])) ∧ (c = false → PrOk acc)) :=
      fun m h1 h2 => ⟨m, rfl, h1, h2, fun v _ _ => by
        repeat walk_at "lp"
        refine ⟨okd_int _, okd_int _, bb (fun h => ?_) fun h => e⟩
        repeat walk_at "lp"
        exact pr_snoc e o1 o2⟩
    repeat walk_at "lp"
    refine ⟨okd_int _, okd_int _, bb (fun h => ?_) fun h => ?_⟩
    · repeat walk_at "lp"
      exact drawn 2 (by decide) (by decide)
    · repeat walk_at "lp"
      exact drawn 4 (by decide) (by decide)
  · exact finP acc .emp .emp .emp .emp .emp e rfl
end Lp.K68

set_option Elab.async false
set_option linter.all false
set_option maxRecDepth 100000
set_option maxHeartbeats 4000000
/-! W7: the walk, the bent lists. Own work. -/
namespace Lp.K68
open PySem PySem.Spec PyProof.Rows L2 LamX Lp
local macro_rules | `(tactic| walk_at "lp") => `(tactic| first
  | with_reducible refine s_seq ?_
  | with_reducible refine s_if ?_
  | with_reducible refine s_ret ?_
  | with_reducible refine s_next ?_
  | with_reducible refine s_asg ?_
  | with_reducible refine t_test ?_
  | with_reducible refine t_val ?_
  | with_reducible refine t_and ?_
  | with_reducible refine t_or ?_
  | with_reducible refine t_not ?_
  | ((with_reducible apply x_var); (focus rfl))
  | with_reducible refine x_non ?_
  | with_reducible refine x_bl ?_
  | with_reducible refine x_int ?_
  | with_reducible refine x_str ?_
  | with_reducible refine x_and ?_
  | with_reducible refine x_or ?_
  | with_reducible refine x_not ?_
  | with_reducible refine x_if ?_
  | with_reducible refine x_isi ?_
  | with_reducible refine x_isi2 ?_
  | with_reducible refine x_len ?_
  | with_reducible refine x_eq ?_
  | with_reducible refine x_ne ?_
  | with_reducible refine x_ix ?_
  | with_reducible refine x_tup ?_
  | with_reducible refine x_callP ?_
  | ((with_reducible apply x_callJ); (focus rfl))
  | with_reducible refine a_cons ?_
  | with_reducible refine a_nil ?_
  | ((with_reducible apply b_own); (focus rfl))
  | ((with_reducible apply b_var); (focus rfl))
  | with_reducible refine EX.eb ?_
  | with_reducible refine l_list ?_
  | with_reducible refine l_lst ?_
  | with_reducible refine l_sl ?_
  | with_reducible refine l_revL ?_
  | with_reducible refine l_sortS ?_
  | ((with_reducible refine l_lc ?_ ?_); (focus rfl))
  | with_reducible refine i_u ?_
  | with_reducible refine i_rng1 ?_
  | with_reducible refine i_rng2 ?_
  | with_reducible refine i_enum ?_
  | with_reducible refine x_isNB ?_
  | with_reducible refine x_notNB ?_
  | with_reducible refine x_tuple ?_
  | with_reducible refine x_int1 ?_
  | with_reducible refine x_bool1 ?_
  | with_reducible refine x_str1 ?_
  | with_reducible refine x_max2 ?_
  | with_reducible refine x_sub ?_
  | with_reducible refine x_mod ?_
  | with_reducible refine x_fdiv ?_
  | with_reducible refine x_pow ?_
  | with_reducible refine x_gt ?_
  | with_reducible refine x_ge ?_
  | with_reducible refine x_le ?_
  | with_reducible refine x_neg ?_
  | with_reducible refine s_retN ?_
  | with_reducible refine s_raise ?_
  | with_reducible refine s_brk ?_
  | with_reducible refine s_ct ?_
  | with_reducible refine le_le ?_
  | with_reducible refine le_lt ?_
  | with_reducible refine o_no ?_
  | with_reducible refine tyes ?_
  | with_reducible refine x_l_lst ?_
  | with_reducible refine x_l_lc ?_
  | with_reducible refine x_l_list ?_
  | with_reducible refine x_l_sort ?_
  | with_reducible refine x_l_sl ?_
  | with_reducible refine x_l_rev ?_
  | with_reducible refine o_at ?_)
theorem swap_app {tl : List Dt} : ∀ {a b : List Dt} {l : List Lt}, lwSwap tl (a ++ b) l = (lwSwap tl a l).bind fun l' => lwSwap tl b l'
  | [], b, l => rfl
  | d :: a, b, l => by
    show ((lwStep tl l d).bind fun l' => lwSwap tl (a ++ b) l') = ((lwStep tl l d).bind fun l' => lwSwap tl a l').bind fun l' => lwSwap tl b l'
    cases lwStep tl l d with
    | none => rfl
    | some l' => exact swap_app (a := a)
theorem eqD_str {a b : Str} : eqD (.str a) (.str b) = (a == b) := by simp [eqD, toPy, PyData.eqv]
theorem bnd_symm {tl : List Dt} {a b : Str} : bndD tl a b = bndD tl b a := by
  unfold bndD
  rw [eqD_str, eqD_str, Bool.or_comm (tl.any fun z => eqD z (pairD (a, b)))]
  congr 1
  by_cases h : a = b
  · subst h; rfl
  · rw [beq_eq_false_iff_ne.mpr h, beq_eq_false_iff_ne.mpr (Ne.symm h)]
def Can (tl : List Dt) (now : List Lt) (k : Int) : Prop := ∃ (n : Nat) (x y : Lt), k = (n : Nat) ∧ now[n]? = some x ∧ now[n + 1]? = some y ∧ bndD tl x.1 y.1 = false
theorem swap_get1 {l : List Lt} {n : Nat} {x y : Lt} (hy : l[n + 1]? = some y) : (swapAt l n x y)[n]? = some y := by
  have h2 := (List.getElem?_eq_some_iff.mp hy).1
  unfold swapAt
  rw [List.getElem?_set_ne (by omega), List.getElem?_set_self (by omega)]
theorem swap_get2 {l : List Lt} {n : Nat} {x y : Lt} (hy : l[n + 1]? = some y) : (swapAt l n x y)[n + 1]? = some x := by
  have h2 := (List.getElem?_eq_some_iff.mp hy).1
  unfold swapAt
  rw [List.getElem?_set_self (by rw [List.length_set]; exact h2)]
theorem okd_ints {ks : List Int} : Okd (.lst (ks.map .int)) := by
  obtain ⟨h1, h2, h3⟩ := lt_lay (vs := ks)
  refine ⟨by simpa [plainB] using h1, ?_⟩
  simp [SeqAt.shaped, toPy, PyData.canLay0, PyData.depth, h2, h3]
theorem okd_nil : Okd (.lst []) := okd_ints (ks := [])
theorem w_law_walk (K : Fg) : OkJ K (tabs K) (F_law_walk K) 9 5 (t_law_walk K eN) := by
  rintro E j ds P ⟨l, tl, m, rfl, hw, ht, hm, p⟩
  refine ⟨rfl, ?_⟩
  unfold t_law_walk sp_law_lw_is_bound sp_law_take sp_law_one
  show SW K _ E _ _ [.jar j, .val (.lst (l.map ltD)), .val (.tup tl), .val (.int (m : Nat)), .emp, .emp, .emp, .emp, .emp] _ _ _ _
  walk_at "lp"
  refine s_tupO (by decide) ?_
  repeat walk_at "lp"
  refine ⟨by decide, ?_⟩
  repeat walk_at "lp"
  refine ⟨true, _, rfl, fun a c ha hc hac => ?_⟩
  walk_at "lp"
  refine s_for ?_
  repeat walk_at "lp"
  refine ⟨_, rfl, by omega, by omega, fun i Γ' => ∃ (pl : List Int) (now : List Lt) (e6 e7 e8 : Ent), Γ' = [.jar j, .val (.lst (l.map ltD)), .val (.tup tl), .val (.int (m : Nat)), .own a (pl.map .int), .own c (now.map ltD), e6, e7, e8] ∧
      noOwn Γ' 6 = true ∧ noOwn Γ' 7 = true ∧ noOwn Γ' 8 = true ∧ WordOk now ∧ lwSwap tl (pl.map .int) l = some now ∧ pl.length ≤ i ∧ ∀ k, pl.getLast? = some k → Can tl now k, [6],
    ⟨[], l, .emp, .emp, .emp, rfl, rfl, rfl, rfl, hw, rfl, Nat.le_refl _, fun k h => (nomatch h)⟩, fun i d Γ' hd iv => ?_, fun Γ' iv => ?_⟩
  · obtain ⟨pl, now, e6, e7, e8, rfl, n6, n7, n8, hn, eq, hpl, hcan⟩ := iv
    obtain ⟨hi, rfl⟩ := rgD_get hd
    have hi' : i < m := by omega
    refine g_p (p_name (by simp) n6 ?_)
    -- a place that may be swapped is swapped
    have rest : ∀ (k : Int) (e7 : Ent), noOwn [e7] 0 = true → Can tl now k → SW K (tabs K) E noX (tSeq (tAsg (tTup (tCons (tOp (rIx K) (tVar 5) (tOp (uAdd K) (tVar 8) (tC (.int 1)))) (tCons (tOp (rIx K) (tVar 5) (tVar 8)) tNil))) (gTup K 2 (gCons (gSub (tVar 5) (tVar 8) rSetL) (gCons (gSub (tVar 5) (tOp (uAdd K) (tVar 8) (tC (.int 1))) rSetL) gNil))))
        (tDrop (tBM K "list" rAppend (tVar 4) (tCons (tVar 8) tNil)))) [.jar j, .val (.lst (l.map ltD)), .val (.tup tl), .val (.int (m : Nat)), .own a (pl.map .int), .own c (now.map ltD), .val (.int (0 + (i : Nat))), e7, .val (.int k)]
        (fun Γ' => ∃ (pl : List Int) (now : List Lt) (e6 e7 e8 : Ent), Γ' = [.jar j, .val (.lst (l.map ltD)), .val (.tup tl), .val (.int (m : Nat)), .own a (pl.map .int), .own c (now.map ltD), e6, e7, e8] ∧
          noOwn Γ' 6 = true ∧ noOwn Γ' 7 = true ∧ noOwn Γ' 8 = true ∧ WordOk now ∧ lwSwap tl (pl.map .int) l = some now ∧ pl.length ≤ i + 1 ∧ ∀ k, pl.getLast? = some k → Can tl now k) (fun r x => P r)
        (fun Γ' => SW K (tabs K) E noX (tRet (tTup (tCons (tVar 4) (tCons (tVar 5) tNil)))) Γ' (fun x => P (.val .non)) (fun r x => P r) (fun x => False) fun x => False)
        (fun Γ' => ∃ (pl : List Int) (now : List Lt) (e6 e7 e8 : Ent), Γ' = [.jar j, .val (.lst (l.map ltD)), .val (.tup tl), .val (.int (m : Nat)), .own a (pl.map .int), .own c (now.map ltD), e6, e7, e8] ∧
          noOwn Γ' 6 = true ∧ noOwn Γ' 7 = true ∧ noOwn Γ' 8 = true ∧ WordOk now ∧ lwSwap tl (pl.map .int) l = some now ∧ pl.length ≤ i + 1 ∧ ∀ k, pl.getLast? = some k → Can tl now k) := by
      intro k e7 h7 hk
      obtain ⟨n, x, y, rfl, hx, hy, hb⟩ := hk
      have h1 := (List.getElem?_eq_some_iff.mp hx).1
      have h2 := (List.getElem?_eq_some_iff.mp hy).1
      have hxm : (now.map ltD)[n]? = some (ltD x) := by rw [List.getElem?_map, hx]; rfl
      have hym : (now.map ltD)[n + 1]? = some (ltD y) := by rw [List.getElem?_map, hy]; rfl
      have ex1 : ((n : Nat) : Int) + 1 = ((n + 1 : Nat) : Int) := by omega
      have i1 : ixN (now.map ltD).length ((n : Nat) : Int) = some n := ixN_of (by rw [List.length_map]; exact h1)
      have i2 : ixN (now.map ltD).length (((n : Nat) : Int) + 1) = some (n + 1) := by rw [ex1]; exact ixN_of (by rw [List.length_map]; exact h2)
      walk_at "lp"
      refine s_asgG (L := []) ?_
      repeat walk_at "lp"
      refine x_add ?_
      repeat walk_at "lp"
      refine ⟨_, _, rfl, rfl, true, _, _, n + 1, ltD y, rfl, rfl, i2, hym, ?_⟩
      repeat walk_at "lp"
      refine ⟨true, _, _, n, ltD x, rfl, rfl, i1, hxm, ?_⟩
      walk_at "lp"
      refine ⟨by show 2 ≤ sizeLine; decide, ?_⟩
      refine g_tup rfl (gs_cons (g_sub rfl ?_))
      walk_at "lp"
      refine ⟨_, n, rfl, i1, ?_⟩
      refine gs_cons (g_sub rfl ?_)
      refine x_add ?_
      repeat walk_at "lp"
      refine ⟨_, _, rfl, rfl, _, n + 1, rfl, by rw [List.length_set]; exact i2, ?_⟩
      refine gs_nil ?_
      refine s_append (i := 4) rfl (by rw [List.length_map, sizeLine_eq]; omega) ?_
      walk_at "lp"
      refine ⟨pl ++ [((n : Nat) : Int)], swapAt now n x y, .val (.int (0 + (i : Nat))), e7, .val (.int (n : Nat)), ?_, rfl, ?_, rfl, swap_ok hx hy hn, ?_, by rw [List.length_append]; show pl.length + 1 ≤ i + 1; omega, fun k hk => ?_⟩
      · show [_, _, _, _, Ent.own a (pl.map .int ++ [.int (n : Nat)]), Ent.own c (swapAt (now.map ltD) n (ltD x) (ltD y)), _, _, _] = _
        rw [swap_map, List.map_append]
        rfl
      · cases e7 <;> first | rfl | cases h7
      · rw [List.map_append, swap_app, eq]
        show ((lwStep tl now (.int (n : Nat))).bind fun l' => some l') = _
        rw [step_int hx hy, if_neg (by rw [hb]; simp)]
        rfl
      · rw [List.getLast?_append] at hk
        have : k = (n : Nat) := by simpa using hk.symm
        subst this
        exact ⟨n, y, x, rfl, swap_get1 hy, swap_get2 hy, by rw [bnd_symm]; exact hb⟩
    walk_at "lp"
    walk_at "lp"
    walk_at "lp"
    refine l_lc (by rw [List.all_cons, List.all_nil, Bool.and_true]; exact n8) ?_
    repeat walk_at "lp"
    refine .inl ⟨true, _, rfl, ?_⟩
    repeat walk_at "lp"
    refine ⟨_, _, rfl, rfl, _, rfl, by rw [List.length_map]; have := hn.2; omega, by rw [List.length_map]; have := hn.2; omega, by rw [rgD_len, List.length_map, sizeLine_eq]; have := hn.2; omega,
      fun _ acc => ∃ ks : List Int, acc = ks.map .int ∧ ∀ k ∈ ks, Can tl now k, ⟨[], rfl, by simp⟩, fun i' d acc hd' _ e => ?_, fun acc hal e => ?_⟩
    · obtain ⟨hk, rfl⟩ := rgD_get hd'
      rw [List.length_map] at hk
      obtain ⟨ks, rfl, hks⟩ := e
      have h1 : i' < now.length := by omega
      have h2 : i' + 1 < now.length := by omega
      have hx : now[i']? = some now[i'] := List.getElem?_eq_getElem h1
      have hy : now[i' + 1]? = some now[i' + 1] := List.getElem?_eq_getElem h2
      have hxm : (now.map ltD)[i']? = some (ltD now[i']) := by rw [List.getElem?_map, hx]; rfl
      have hym : (now.map ltD)[i' + 1]? = some (ltD now[i' + 1]) := by rw [List.getElem?_map, hy]; rfl
      have okx := hn.1 _ (List.mem_of_getElem? hx)
      have oky := hn.1 _ (List.mem_of_getElem? hy)
      refine p_name (by simp) (by
        show noOwn (wipeG _ [8]) 8 = true
        rfl) ?_
      repeat walk_at "lp"
      refine ⟨true, _, _, i', _, rfl, rfl, by rw [zero_add_nat]; exact ixN_of (by rw [List.length_map]; exact h1), hxm, ?_⟩
      walk_at "lp"
      refine ⟨false, _, 0, 0, .str now[i'].1, rfl, rfl, rfl, rfl, ?_⟩
      repeat walk_at "lp"
      refine x_add ?_
      repeat walk_at "lp"
      refine ⟨_, _, rfl, rfl, true, _, _, i' + 1, _, rfl, rfl, by rw [show (0 : Int) + (i' : Nat) + 1 = ((i' + 1 : Nat) : Int) by omega]; exact ixN_of (by rw [List.length_map]; exact h2), hym, ?_⟩
      walk_at "lp"
      refine ⟨false, _, 0, 0, .str now[i' + 1].1, rfl, rfl, rfl, rfl, ?_⟩
      walk_at "lp"
      refine ⟨tl, now[i'].1, now[i' + 1].1, rfl, ht, okx.1.2.2.2, oky.1.2.2.2, nbb (fun hb => ?_) fun hb => ⟨ks, rfl, hks⟩⟩
      repeat walk_at "lp"
      refine ⟨ks ++ [0 + ((i' : Nat) : Int)], by rw [List.map_append]; rfl, fun k hk => ?_⟩
      rcases List.mem_append.mp hk with hk | hk
      · exact hks k hk
      · rw [List.mem_singleton.mp hk]
        exact ⟨i', _, _, by omega, hx, hy, hb⟩
    · obtain ⟨ks, rfl, hks⟩ := e
      have hkl : ks.length ≤ 1000 := by
        rw [List.length_map, rgD_len, List.length_map] at hal
        have := hn.2
        omega
      have stay : SW K (tabs K) E noX tNext [.jar j, .val (.lst (l.map ltD)), .val (.tup tl), .val (.int (m : Nat)), .own a (pl.map .int), .own c (now.map ltD), .val (.int (0 + (i : Nat))), .val (.lst (ks.map .int)), e8]
        (fun Γ' => ∃ (pl : List Int) (now : List Lt) (e6 e7 e8 : Ent), Γ' = [.jar j, .val (.lst (l.map ltD)), .val (.tup tl), .val (.int (m : Nat)), .own a (pl.map .int), .own c (now.map ltD), e6, e7, e8] ∧
          noOwn Γ' 6 = true ∧ noOwn Γ' 7 = true ∧ noOwn Γ' 8 = true ∧ WordOk now ∧ lwSwap tl (pl.map .int) l = some now ∧ pl.length ≤ i + 1 ∧ ∀ k, pl.getLast? = some k → Can tl now k) (fun r x => P r)
        (fun Γ' => SW K (tabs K) E noX (tRet (tTup (tCons (tVar 4) (tCons (tVar 5) tNil)))) Γ' (fun x => P (.val .non)) (fun r x => P r) (fun x => False) fun x => False)
        (fun Γ' => ∃ (pl : List Int) (now : List Lt) (e6 e7 e8 : Ent), Γ' = [.jar j, .val (.lst (l.map ltD)), .val (.tup tl), .val (.int (m : Nat)), .own a (pl.map .int), .own c (now.map ltD), e6, e7, e8] ∧
          noOwn Γ' 6 = true ∧ noOwn Γ' 7 = true ∧ noOwn Γ' 8 = true ∧ WordOk now ∧ lwSwap tl (pl.map .int) l = some now ∧ pl.length ≤ i + 1 ∧ ∀ k, pl.getLast? = some k → Can tl now k) := by
        walk_at "lp"
        exact ⟨pl, now, _, _, _, rfl, rfl, rfl, n8, hn, eq, by omega, hcan⟩
      repeat walk_at "lp"
      refine ⟨by decide, okd_ints, okd_nil, bb (fun hne => ?_) fun _ => stay⟩
      have hks0 : ks ≠ [] := fun z => by
        subst z
        have hz : (!eqD (.lst []) (.lst [])) = true := hne
        rw [eqD_same okd_nil] at hz
        cases hz
      have draw : ∀ x ∈ ks.map Dt.int, ∃ k, x = .int k ∧ Can tl now k := fun x hx => by
        obtain ⟨k, hk, rfl⟩ := List.mem_map.mp hx
        exact ⟨k, rfl, hks k hk⟩
      have one : EX K (tabs K) E noX (tCall (spJ K (tabs K) (F_law_one K)) [] eN (tCons (tVar 0) (tCons (tVar 7) tNil))) [.jar j, .val (.lst (l.map ltD)), .val (.tup tl), .val (.int (m : Nat)), .own a (pl.map .int), .own c (now.map ltD), .val (.int (0 + (i : Nat))), .val (.lst (ks.map .int)), e8]
          fun d => ∃ k, d = .int k ∧ Can tl now k := by
        repeat walk_at "lp"
        exact ⟨true, _, rfl, by intro z; exact hks0 (List.map_eq_nil_iff.mp z), by rw [List.length_map]; exact hkl, draw⟩
      walk_at "lp"
      refine s_asg (EX.imp (P := fun d => ∃ k, d = .int k ∧ Can tl now k) ?_ fun d ⟨k, ek, hk⟩ => by subst ek; exact rest k _ rfl hk)
      repeat walk_at "lp"
      refine ⟨by decide, okd_ints, okd_nil, bb (fun hne2 => ?_) fun _ => ⟨fun z => (nomatch z), fun _ => one⟩⟩
      have hpl0 : pl ≠ [] := fun z => by
        subst z
        have hz : (!eqD (.lst []) (.lst [])) = true := hne2
        rw [eqD_same okd_nil] at hz
        cases hz
      repeat walk_at "lp"
      refine ⟨4, rfl, by decide, by decide, fun v _ _ => ?_⟩
      repeat walk_at "lp"
      refine ⟨okd_int _, okd_int _, bb (fun _ => ?_) fun _ => one⟩
      have hp1 : 0 < pl.length := List.length_pos_iff.mpr hpl0
      obtain ⟨k, hk⟩ : ∃ k, pl.getLast? = some k := by
        cases h : pl.getLast? with
        | none => exact (hpl0 (List.getLast?_eq_none_iff.mp h)).elim
        | some k => exact ⟨k, rfl⟩
      have hk' : pl[pl.length - 1]? = some k := by rw [List.getLast?_eq_getElem?] at hk; exact hk
      repeat walk_at "lp"
      refine ⟨1, rfl, true, _, _, pl.length - 1, .int k, rfl, rfl, ?_, by rw [List.getElem?_map, hk']; rfl, k, rfl, hcan k hk⟩
      rw [List.length_map]
      unfold ixN
      rw [if_neg (by omega), if_pos (by omega)]
      congr 1
      omega
  · obtain ⟨pl, now, e6, e7, e8, rfl, n6, n7, n8, hn, eq, hpl, hcan⟩ := iv
    rw [rgD_len] at hpl
    refine s_forget (i := 4) rfl (s_forget (i := 5) rfl ?_)
    repeat walk_at "lp"
    exact ⟨by show 2 ≤ sizeLine; decide, p pl now eq (by omega)⟩
end Lp.K68

set_option Elab.async false
set_option linter.all false
set_option maxRecDepth 100000
set_option maxHeartbeats 4000000
/-! W8: the bent lists. Own work. -/
namespace Lp.K68
open PySem PySem.Spec PyProof.Rows L2 LamX Lp
local macro_rules | `(tactic| walk_at "lp") => `(tactic| first
  | with_reducible refine s_seq ?_
  | with_reducible refine s_if ?_
  | with_reducible refine s_ret ?_
  | with_reducible refine s_next ?_
  | with_reducible refine s_asg ?_
  | with_reducible refine t_test ?_
  | with_reducible refine t_val ?_
  | with_reducible refine t_and ?_
  | with_reducible refine t_or ?_
  | with_reducible refine t_not ?_
  | ((with_reducible apply x_var); (focus rfl))
  | with_reducible refine x_non ?_
  | with_reducible refine x_bl ?_
  | with_reducible refine x_int ?_
  | with_reducible refine x_str ?_
  | with_reducible refine x_and ?_
  | with_reducible refine x_or ?_
  | with_reducible refine x_not ?_
  | with_reducible refine x_if ?_
  | with_reducible refine x_isi ?_
  | with_reducible refine x_isi2 ?_
  | with_reducible refine x_len ?_
  | with_reducible refine x_eq ?_
  | with_reducible refine x_ne ?_
  | with_reducible refine x_ix ?_
  | with_reducible refine x_tup ?_
  | with_reducible refine x_callP ?_
  | ((with_reducible apply x_callJ); (focus rfl))
  | with_reducible refine a_cons ?_
  | with_reducible refine a_nil ?_
  | ((with_reducible apply b_own); (focus rfl))
  | ((with_reducible apply b_var); (focus rfl))
  | with_reducible refine EX.eb ?_
  | with_reducible refine l_list ?_
  | with_reducible refine l_lst ?_
  | with_reducible refine l_sl ?_
  | with_reducible refine l_revL ?_
  | with_reducible refine l_sortS ?_
  | ((with_reducible refine l_lc ?_ ?_); (focus rfl))
  | with_reducible refine i_u ?_
  | with_reducible refine i_rng1 ?_
  | with_reducible refine i_rng2 ?_
  | with_reducible refine i_enum ?_
  | with_reducible refine x_isNB ?_
  | with_reducible refine x_notNB ?_
  | with_reducible refine x_tuple ?_
  | with_reducible refine x_int1 ?_
  | with_reducible refine x_bool1 ?_
  | with_reducible refine x_str1 ?_
  | with_reducible refine x_max2 ?_
  | with_reducible refine x_sub ?_
  | with_reducible refine x_mod ?_
  | with_reducible refine x_fdiv ?_
  | with_reducible refine x_pow ?_
  | with_reducible refine x_gt ?_
  | with_reducible refine x_ge ?_
  | with_reducible refine x_le ?_
  | with_reducible refine x_neg ?_
  | with_reducible refine s_retN ?_
  | with_reducible refine s_raise ?_
  | with_reducible refine s_brk ?_
  | with_reducible refine s_ct ?_
  | with_reducible refine le_le ?_
  | with_reducible refine le_lt ?_
  | with_reducible refine o_no ?_
  | with_reducible refine tyes ?_
  | with_reducible refine x_l_lst ?_
  | with_reducible refine x_l_lc ?_
  | with_reducible refine x_l_list ?_
  | with_reducible refine x_l_sort ?_
  | with_reducible refine x_l_sl ?_
  | with_reducible refine x_l_rev ?_
  | with_reducible refine o_at ?_)
def GoodIx (ix : List Dt) : Prop := (∀ x ∈ ix, TyOk x) ∧ ix.length ≤ 10000
def Goods (acc : List Dt) : Prop := ∃ L : List (List Dt), acc = L.map .lst ∧ ∀ ix ∈ L, GoodIx ix
theorem goods_nil : Goods [] := ⟨[], rfl, by simp⟩
theorem goods_snoc {acc ix : List Dt} (h : Goods acc) (g : GoodIx ix) : Goods (acc ++ [.lst ix]) := by
  obtain ⟨L, rfl, hL⟩ := h
  refine ⟨L ++ [ix], by rw [List.map_append]; rfl, fun z hz => ?_⟩
  rcases List.mem_append.mp hz with h | h
  · exact hL z h
  · rw [List.mem_singleton.mp h]; exact g
theorem goods_cons {acc ix : List Dt} (g : GoodIx ix) (h : Goods acc) : Goods (.lst ix :: acc) := by
  obtain ⟨L, rfl, hL⟩ := h
  exact ⟨ix :: L, rfl, fun z hz => by
    rcases List.mem_cons.mp hz with h | h
    · rw [h]; exact g
    · exact hL z h⟩
theorem goods_app {a b : List Dt} (h : Goods a) (g : Goods b) : Goods (a ++ b) := by
  obtain ⟨L, rfl, hL⟩ := h
  obtain ⟨M, rfl, hM⟩ := g
  exact ⟨L ++ M, by rw [List.map_append], fun z hz => by
    rcases List.mem_append.mp hz with h | h
    · exact hL z h
    · exact hM z h⟩
/-- a part of a list of whole numbers, of at most n -/
def Part (n : Nat) (ix : List Dt) : Prop := (∀ x ∈ ix, TyOk x) ∧ ix.length ≤ n
theorem part_cut {pl : List Int} {lo hi : Option Int} (h : pl.length ≤ 1000) : Part 1000 (cutD (pl.map .int) lo hi) := by
  refine ⟨fun x hx => ?_, ?_⟩
  · have h1 := List.mem_of_mem_drop (List.mem_of_mem_take hx)
    obtain ⟨v, _, rfl⟩ := List.mem_map.mp h1
    exact ⟨_, rfl⟩
  · unfold cutD
    rw [List.length_take, List.length_drop, List.length_map]
    omega
theorem part_ints {pl : List Int} (h : pl.length ≤ 1000) : Part 1000 (pl.map .int) := ⟨fun x hx => by
  obtain ⟨v, _, rfl⟩ := List.mem_map.mp hx
  exact ⟨_, rfl⟩, by rw [List.length_map]; exact h⟩
theorem part_one {d : Dt} (h : TyOk d) : Part 1 [d] := ⟨fun x hx => by rw [List.mem_singleton.mp hx]; exact h, Nat.le_refl _⟩
theorem part_app {n m : Nat} {a b : List Dt} (h : Part n a) (g : Part m b) : Part (n + m) (a ++ b) := ⟨fun x hx => by
  rcases List.mem_append.mp hx with q | q
  · exact h.1 x q
  · exact g.1 x q, by rw [List.length_append]; exact Nat.add_le_add h.2 g.2⟩
theorem part_good {n : Nat} {a : List Dt} (h : Part n a) (hn : n ≤ 10000) : GoodIx a := ⟨h.1, Nat.le_trans h.2 hn⟩
theorem part_rep {n k : Nat} {a : List Dt} (h : Part n a) : Part (k * n) (List.replicate k a).flatten := by
  induction k with
  | zero => exact ⟨fun x hx => by simp at hx, by simp⟩
  | succ k ih =>
    rw [List.replicate_succ, List.flatten_cons]
    have := part_app h ih
    rw [show n + k * n = (k + 1) * n by rw [Nat.succ_mul]; omega] at this
    exact this
theorem small_size {n : Nat} (h : n ≤ 10000) : n ≤ sizeLine := by rw [sizeLine_eq]; omega
theorem w_law_bent (K : Fg) : OkJ K (tabs K) (F_law_bent K) 8 5 (t_law_bent K eN) := by
  rintro E j ds P ⟨pl, m, rfl, hm, hpl, p⟩
  refine ⟨rfl, ?_⟩
  unfold t_law_bent sp_law_take sp_law_mixed
  show SW K _ E _ _ [.jar j, .val (.lst (pl.map .int)), .val (.int (m : Nat)), .emp, .emp, .emp, .emp, .emp] _ _ _ _
  walk_at "lp"
  walk_at "lp"
  walk_at "lp"
  refine a_cons (x_add ?_)
  repeat walk_at "lp"
  refine .inl ⟨true, _, rfl, ?_⟩
  walk_at "lp"
  refine ⟨_, _, rfl, rfl, ?_⟩
  walk_at "lp"
  refine ⟨_, rfl, by rw [List.length_map]; omega, by rw [List.length_map]; omega, fun at_ h1 h2 => ?_⟩
  walk_at "lp"
  refine s_asgO ?_
  repeat walk_at "lp"
  refine ⟨true, _, rfl, fun a ha => ?_⟩
  -- the odd ones
  walk_at "lp"
  refine s_asg (EX.imp (P := fun d => ∃ odds, d = .lst odds ∧ (∀ x ∈ odds, TyOk x) ∧ odds.length = 11) ?_ fun d ⟨odds, ed, hodd, hol⟩ => ?_)
  · repeat walk_at "lp"
    refine ⟨1, rfl, ?_⟩
    repeat walk_at "lp"
    refine ⟨_, _, rfl, rfl, ?_⟩
    repeat walk_at "lp"
    refine ⟨by show 1 ≤ sizeLine; decide, ?_⟩
    repeat walk_at "lp"
    refine ⟨by show 1 ≤ sizeLine; decide, ?_⟩
    repeat walk_at "lp"
    refine ⟨_, _, rfl, rfl, ⟨by decide, by decide, by decide⟩, ?_⟩
    repeat walk_at "lp"
    refine ⟨1, _, rfl, rfl, ?_⟩
    walk_at "lp"
    refine ⟨_, rfl, by split <;> omega, by split <;> omega, fun v hv1 hv2 => ?_⟩
    repeat walk_at "lp"
    refine ⟨by show 11 ≤ sizeLine; decide, _, rfl, ?_, rfl⟩
    intro x hx
    simp only [List.mem_cons, List.not_mem_nil, or_false] at hx
    rcases hx with rfl | rfl | rfl | rfl | rfl | rfl | rfl | rfl | rfl | rfl | rfl <;> exact ⟨_, rfl⟩
  subst ed
  have oddAt : ∀ {i : Nat} {d : Dt}, odds[i]? = some d → TyOk d := fun h => hodd _ (List.mem_of_getElem? h)
  have P1 : ∀ {lo hi : Option Int}, Part 1000 (cutD (pl.map .int) lo hi) := part_cut hpl
  -- the first comprehension
  walk_at "lp"
  refine s_asgO ?_
  repeat walk_at "lp"
  refine .inl ⟨true, odds, rfl, by rw [hol]; decide, fun _ acc => Goods acc, goods_nil, fun i d acc hd _ e => ?_, fun acc hal e b hb => ?_⟩
  · refine p_name (by simp) (by
      show noOwn (wipeG _ [7]) 7 = true
      rfl) (tyes ⟨fun _ => ?_, fun z => (nomatch z)⟩)
    refine x_l (l_catM (EL.em (l_catM (EL.em ?_))))
    repeat walk_at "lp"
    refine ⟨_, rfl, _, rfl, EL.em ?_⟩
    repeat walk_at "lp"
    refine ⟨by show 1 ≤ sizeLine; decide, ?_, EL.em ?_⟩
    · exact small_size (Nat.le_trans (Nat.add_le_add P1.2 (Nat.le_refl 1)) (by decide))
    repeat walk_at "lp"
    refine ⟨_, rfl, ?_⟩
    walk_at "lp"
    refine ⟨_, rfl, ?_, ?_⟩
    · rw [List.length_append]
      exact small_size (Nat.le_trans (Nat.add_le_add (Nat.add_le_add P1.2 (Nat.le_refl 1)) P1.2) (by decide))
    · exact goods_snoc e (part_good (part_app (part_app P1 (part_one (oddAt hd))) P1) (by decide))
  -- the second
  walk_at "lp"
  refine s_extend (i := 6) rfl ?_
  repeat walk_at "lp"
  refine .inl ⟨true, odds, rfl, by rw [hol]; decide, fun _ acc => Goods acc, goods_nil, fun i d acc2 hd _ e2 => ?_, fun acc2 hal2 e2 => ?_⟩
  · refine p_name (by simp) (by
      show noOwn (wipeG _ [7]) 7 = true
      rfl) (tyes ⟨fun _ => ?_, fun z => (nomatch z)⟩)
    refine x_l (l_catM (EL.em (l_catM (EL.em ?_))))
    repeat walk_at "lp"
    refine ⟨_, rfl, _, rfl, EL.em ?_⟩
    repeat walk_at "lp"
    refine ⟨by show 1 ≤ sizeLine; decide, ?_, EL.em ?_⟩
    · exact small_size (Nat.le_trans (Nat.add_le_add P1.2 (Nat.le_refl 1)) (by decide))
    repeat walk_at "lp"
    refine x_add ?_
    repeat walk_at "lp"
    refine ⟨_, _, rfl, rfl, _, rfl, ?_⟩
    walk_at "lp"
    refine ⟨_, rfl, ?_, ?_⟩
    · rw [List.length_append]
      exact small_size (Nat.le_trans (Nat.add_le_add (Nat.add_le_add P1.2 (Nat.le_refl 1)) P1.2) (by decide))
    · exact goods_snoc e2 (part_good (part_app (part_app P1 (part_one (oddAt hd))) P1) (by decide))
  refine ⟨small_size (by rw [hol] at hal hal2; omega), ?_⟩
  have len2 : (acc ++ acc2).length ≤ 22 := by rw [List.length_append]; rw [hol] at hal hal2; omega
  have G2 : Goods (acc ++ acc2) := goods_app e e2
  -- five more
  walk_at "lp"
  refine s_extend (i := 6) rfl (l_lst (a_cons (x_l (l_catM (EL.em ?_)))))
  repeat walk_at "lp"
  refine ⟨_, rfl, _, rfl, EL.em ?_⟩
  repeat walk_at "lp"
  refine x_add ?_
  repeat walk_at "lp"
  refine ⟨_, _, rfl, rfl, _, rfl, ?_⟩
  walk_at "lp"
  refine ⟨_, rfl, small_size (Nat.le_trans (Nat.add_le_add P1.2 P1.2) (by decide)), ?_⟩
  repeat walk_at "lp"
  refine ⟨_, rfl, ?_⟩
  refine a_cons (x_l (l_lend (i := 4) rfl (l_callJ rfl ?_)))
  repeat walk_at "lp"
  refine ⟨pl.map .int, rfl, by rw [List.length_map]; exact hpl, fun ys hys => ⟨ys, rfl, fun d hd => ?_, ?_⟩⟩
  · obtain ⟨v, _, rfl⟩ := List.mem_map.mp (hys.mem_iff.mp hd)
    rfl
  have PY : Part 1000 ys := ⟨fun x hx => (part_ints hpl).1 x (hys.mem_iff.mp hx), by rw [hys.length_eq, List.length_map]; exact hpl⟩
  refine a_cons (x_l (l_catM (m_own rfl (m_own rfl ⟨?_, ?_⟩))))
  · rw [List.length_map]; exact small_size (by omega)
  refine a_cons (x_l ?_)
  repeat walk_at "lp"
  refine ⟨_, rfl, _, rfl, ?_⟩
  walk_at "lp"
  refine ⟨by show 5 ≤ sizeLine; decide, small_size (by show (acc ++ acc2).length + 5 ≤ 10000; omega), ?_⟩
  have PR : Part 1000 (pl.map Dt.int).reverse := ⟨fun x hx => (part_ints hpl).1 x (List.mem_reverse.mp hx), by rw [List.length_reverse, List.length_map]; exact hpl⟩
  -- two more
  walk_at "lp"
  refine s_extend (i := 6) rfl (l_lst (a_cons (x_l (l_catM (EL.em (l_catM (EL.em ?_)))))))
  repeat walk_at "lp"
  refine ⟨_, rfl, _, rfl, EL.em (l_rep (EL.em ?_))⟩
  repeat walk_at "lp"
  refine ⟨_, rfl, ?_⟩
  walk_at "lp"
  refine x_add ?_
  repeat walk_at "lp"
  refine ⟨_, _, rfl, rfl, _, rfl, _, rfl, ?_⟩
  walk_at "lp"
  refine ⟨3, rfl, by decide, by decide, small_size (Nat.le_trans (Nat.mul_le_mul_right 3 P1.2) (by decide)), ?_, EL.em ?_⟩
  · exact small_size (Nat.le_trans (Nat.add_le_add P1.2 (part_rep (k := 3) P1).2) (by decide))
  repeat walk_at "lp"
  refine x_add ?_
  repeat walk_at "lp"
  refine ⟨_, _, rfl, rfl, _, rfl, ?_⟩
  walk_at "lp"
  refine ⟨_, rfl, small_size ?_, ?_⟩
  · rw [List.length_append]
    exact Nat.le_trans (Nat.add_le_add (Nat.add_le_add P1.2 (part_rep (k := 3) P1).2) P1.2) (by decide)
  refine a_cons (x_l (l_catM (EL.em (l_catM (EL.em ?_)))))
  repeat walk_at "lp"
  refine ⟨_, rfl, _, rfl, EL.em (l_rep (EL.em ?_))⟩
  repeat walk_at "lp"
  refine ⟨_, rfl, ?_⟩
  walk_at "lp"
  refine x_add ?_
  repeat walk_at "lp"
  refine ⟨_, _, rfl, rfl, _, rfl, _, rfl, ?_⟩
  walk_at "lp"
  refine ⟨2, rfl, by decide, by decide, small_size (Nat.le_trans (Nat.mul_le_mul_right 2 P1.2) (by decide)), ?_, EL.em ?_⟩
  · exact small_size (Nat.le_trans (Nat.add_le_add P1.2 (part_rep (k := 2) P1).2) (by decide))
  repeat walk_at "lp"
  refine x_add ?_
  repeat walk_at "lp"
  refine ⟨_, _, rfl, rfl, _, rfl, ?_⟩
  walk_at "lp"
  refine ⟨_, rfl, small_size ?_, ?_⟩
  · rw [List.length_append]
    exact Nat.le_trans (Nat.add_le_add (Nat.add_le_add P1.2 (part_rep (k := 2) P1).2) P1.2) (by decide)
  walk_at "lp"
  refine ⟨by show 2 ≤ sizeLine; decide, small_size (by rw [List.length_append]; show (acc ++ acc2).length + 5 + 2 ≤ 10000; omega), ?_⟩
  have fin : ∀ D : List Dt, Goods D → D.length ≤ 40 → P (.new D) := fun D ⟨L, eL, hL⟩ hD => by
    rw [eL] at hD ⊢
    rw [List.length_map] at hD
    exact p L hL hD
  refine s_retO rfl (fin _ ?_ ?_)
  · exact goods_app (goods_app G2 (goods_cons (part_good (part_app P1 P1) (by decide)) (goods_cons (part_good PR (by decide)) (goods_cons (part_good PY (by decide)) (goods_cons (part_good (part_app (part_ints hpl) (part_ints hpl)) (by decide)) (goods_cons (part_good P1 (by decide)) goods_nil))))))
      (goods_cons (part_good (part_app (part_app P1 (part_rep (k := 3) P1)) P1) (by decide)) (goods_cons (part_good (part_app (part_app P1 (part_rep (k := 2) P1)) P1) (by decide)) goods_nil))
  · rw [List.length_append, List.length_append]
    show (acc ++ acc2).length + 5 + 2 ≤ 40
    omega
end Lp.K68

set_option Elab.async false
set_option linter.all false
set_option maxRecDepth 100000
set_option maxHeartbeats 4000000
/-! W9: a world judged. Own work. -/
namespace Lp.K68
open PySem PySem.Spec PyProof.Rows L2 LamX Lp
local macro_rules | `(tactic| walk_at "lp") => `(tactic| first
  | with_reducible refine s_seq ?_
  | with_reducible refine s_if ?_
  | with_reducible refine s_ret ?_
  | with_reducible refine s_next ?_
  | with_reducible refine s_asg ?_
  | with_reducible refine t_test ?_
  | with_reducible refine t_val ?_
  | with_reducible refine t_and ?_
  | with_reducible refine t_or ?_
  | with_reducible refine t_not ?_
  | ((with_reducible apply x_var); (focus rfl))
  | with_reducible refine x_non ?_
  | with_reducible refine x_bl ?_
  | with_reducible refine x_int ?_
  | with_reducible refine x_str ?_
  | with_reducible refine x_and ?_
  | with_reducible refine x_or ?_
  | with_reducible refine x_not ?_
  | with_reducible refine x_if ?_
  | with_reducible refine x_isi ?_
  | with_reducible refine x_isi2 ?_
  | with_reducible refine x_len ?_
  | with_reducible refine x_eq ?_
  | with_reducible refine x_ne ?_
  | with_reducible refine x_ix ?_
  | with_reducible refine x_tup ?_
  | with_reducible refine x_callP ?_
  | ((with_reducible apply x_callJ); (focus rfl))
  | with_reducible refine a_cons ?_
  | with_reducible refine a_nil ?_
  | ((with_reducible apply b_own); (focus rfl))
  | ((with_reducible apply b_var); (focus rfl))
  | with_reducible refine EX.eb ?_
  | with_reducible refine l_list ?_
  | with_reducible refine l_lst ?_
  | with_reducible refine l_sl ?_
  | with_reducible refine l_revL ?_
  | with_reducible refine l_sortS ?_
  | ((with_reducible refine l_lc ?_ ?_); (focus rfl))
  | with_reducible refine i_u ?_
  | with_reducible refine i_rng1 ?_
  | with_reducible refine i_rng2 ?_
  | with_reducible refine i_enum ?_
  | with_reducible refine x_isNB ?_
  | with_reducible refine x_notNB ?_
  | with_reducible refine x_tuple ?_
  | with_reducible refine x_int1 ?_
  | with_reducible refine x_bool1 ?_
  | with_reducible refine x_str1 ?_
  | with_reducible refine x_max2 ?_
  | with_reducible refine x_sub ?_
  | with_reducible refine x_mod ?_
  | with_reducible refine x_fdiv ?_
  | with_reducible refine x_pow ?_
  | with_reducible refine x_gt ?_
  | with_reducible refine x_ge ?_
  | with_reducible refine x_le ?_
  | with_reducible refine x_neg ?_
  | with_reducible refine s_retN ?_
  | with_reducible refine s_raise ?_
  | with_reducible refine s_brk ?_
  | with_reducible refine s_ct ?_
  | with_reducible refine le_le ?_
  | with_reducible refine le_lt ?_
  | with_reducible refine o_no ?_
  | with_reducible refine tyes ?_
  | with_reducible refine x_l_lst ?_
  | with_reducible refine x_l_lc ?_
  | with_reducible refine x_l_list ?_
  | with_reducible refine x_l_sort ?_
  | with_reducible refine x_l_sl ?_
  | with_reducible refine x_l_rev ?_
  | with_reducible refine o_at ?_)
/-- data that the sameness takes -/
def dOk (d : Dt) : Prop := Okd d ∧ szB d = true ∧ (toPy d).depth ≤ 10
theorem dok_pair {s : Str} {x : Dt} (hs : strOkB s = true) (h : Okd x) (hz : szB x = true) (hd : (toPy x).depth ≤ 9) : dOk (.tup [.str s, x]) := by
  have h1 := h.1
  have h2 := SeqAt.canLay_of_shaped h.2
  have h3 : (PyData.str s).canLay0 = true := hs
  have dp : (toPy (.tup [.str s, x])).depth ≤ 10 := by
    simp only [toPy, toPyL, PyData.depth, PyData.depthAll]
    omega
  refine ⟨⟨by simp [plainB, plainL, h1], ?_⟩, by simp [szB, szL, hz], dp⟩
  unfold SeqAt.shaped
  rw [Bool.and_eq_true_iff]
  refine ⟨?_, decide_eq_true (by omega)⟩
  simp only [toPy, toPyL, PyData.canLay0, PyData.canLayAll0, Bool.and_eq_true]
  exact ⟨h3, h2, trivial⟩
theorem dok_list {S : List Dt} (h : ∀ d ∈ S, dOk d) (hl : S.length ≤ 100000) : Okd (.lst S) ∧ szB (.lst S) = true ∧ (toPy (.lst S)).depth ≤ 11 := by
  have key : ∀ {S : List Dt}, (∀ d ∈ S, dOk d) → plainL S = true ∧ PyData.canLayAll0 (toPyL S) = true ∧ PyData.depthAll (toPyL S) ≤ 10 ∧ szL S = true := by
    intro S
    induction S with
    | nil => intro _; exact ⟨rfl, rfl, by simp [toPyL, PyData.depthAll], rfl⟩
    | cons d S ih =>
      intro h
      obtain ⟨i1, i2, i3, i4⟩ := ih fun e he => h e (by simp [he])
      obtain ⟨hd, hz, hp⟩ := h d (by simp)
      refine ⟨by simp [plainL, hd.1, i1], ?_, ?_, by simp [szL, hz, i4]⟩
      · simp only [toPyL, PyData.canLayAll0, Bool.and_eq_true]
        exact ⟨SeqAt.canLay_of_shaped hd.2, i2⟩
      · simp only [toPyL, PyData.depthAll]
        exact Nat.max_le.mpr ⟨hp, i3⟩
  obtain ⟨i1, i2, i3, i4⟩ := key h
  have dp : (toPy (.lst S)).depth ≤ 11 := by simp only [toPy, PyData.depth]; omega
  refine ⟨⟨by simpa [plainB] using i1, ?_⟩, by simp [szB, hl, i4], dp⟩
  unfold SeqAt.shaped
  rw [Bool.and_eq_true_iff]
  refine ⟨?_, decide_eq_true (by omega)⟩
  simpa only [toPy, PyData.canLay0] using i2
theorem word_sz {l : List Lt} (h : WordOk l) : szB (.lst (l.map ltD)) = true ∧ (toPy (.lst (l.map ltD))).depth ≤ 3 := by
  have key : ∀ {l : List Lt}, (∀ x ∈ l, okLt x) → szL (l.map ltD) = true := by
    intro l
    induction l with
    | nil => intro _; rfl
    | cons x l ih =>
      intro h
      have i := ih fun e he => h e (by simp [he])
      obtain ⟨_, h2, _⟩ := h x (by simp)
      have k2 : ∀ vs : List Int, szL (vs.map .int) = true := fun vs => by
        induction vs with
        | nil => rfl
        | cons v vs ih => simp [szL, szB, ih]
      have : x.2.length ≤ 100000 := by omega
      simp [szL, ltD, szB, i, k2, this]
  obtain ⟨i1, i2, i3⟩ := word_lay h.1
  have := h.2
  refine ⟨by simp [szB, key h.1]; omega, ?_⟩
  simp only [toPy, PyData.depth]
  omega
theorem told_ok : strOkB "told" = true := by decide +kernel
theorem bad_ok : strOkB "BadPart" = true := by decide +kernel
theorem idx_ok : strOkB "indexes" = true := by decide +kernel
/-- what is heard of the swaps -/
def hs : Option (List Lt) → Dt
  | none => .tup [.str "BadPart", .str "indexes"]
  | some r => .tup [.str "told", .lst (r.map ltD)]
theorem dok_hs {o : Option (List Lt)} (h : ∀ r, o = some r → WordOk r) : dOk (hs o) := by
  cases o with
  | none => exact dok_pair bad_ok (okd_str idx_ok) rfl (by decide)
  | some r => exact dok_pair told_ok (okd_word (h r rfl)) (word_sz (h r rfl)).1 (Nat.le_trans (word_sz (h r rfl)).2 (by decide))
theorem dok_bl {b : Bool} : dOk (.tup [.str "told", .bl b]) := dok_pair told_ok (okd_bl b) rfl (by simp [toPy, PyData.depth])
theorem heard_dt {K : Fg} {l : List Lt} {tl : List Dt} {Q : Rt → Prop} (b : Bool) (d : Dt) (hw : WordOk l) (ht : GoodT tl) (hix : IxOk d) (hp : ∀ r : Rt, r.dt = hs (swOf tl l d) → Q r) : F_law_heard_swapped K [sqD b (l.map ltD), .tup tl, d] Q noX :=
  ⟨b, l, tl, d, rfl, hw, ht, hix, fun e => hp _ (by rw [e]; rfl), fun r e => hp _ (by rw [e]; rfl)⟩
theorem ixok_sq {b : Bool} {ix : List Dt} (h : GoodIx ix) : IxOk (sqD b ix) := ⟨by cases b <;> exact ⟨_, rfl⟩, fun c iy e => by
  have : ix = iy := by cases b <;> cases c <;> cases e <;> rfl
  rw [← this]; exact h⟩
theorem ixok_no {d : Dt} (h : TyOk d) (hn : ∀ c ix, d ≠ sqD c ix) : IxOk d := ⟨h, fun c ix e => (hn c ix e).elim⟩
theorem eqD_nl {l : List Dt} : eqD .non (.lst l) = false := by simp [eqD, toPy, PyData.eqv]
theorem isNon_res {o : Option (List Lt)} : isNon (resD o) = o.isNone := by cases o <;> rfl
theorem w_law_kept_right (K : Fg) : OkJ K (tabs K) (F_law_kept_right K) 9 4 (t_law_kept_right K eN) := by
  rintro E j ds P ⟨l, tl, pl, now, rfl, hw, ht, hpl, eq, p⟩
  refine ⟨rfl, ?_⟩
  unfold t_law_kept_right sp_law_heard_swapped sp_law_yq_same
  show SW K _ E _ _ [.jar j, .val (.lst (l.map ltD)), .val (.tup tl), .val (.lst (pl.map .int)), .val (.lst (now.map ltD)), .emp, .emp, .emp, .emp] _ _ _ _
  have hn := swaps_ok hw eq
  have good : GoodIx (pl.map .int) := part_good (part_ints hpl) (by decide)
  have esw : swOf tl l (.lst (pl.map .int)) = some now := eq
  walk_at "lp"
  refine s_par ?_
  repeat walk_at "lp"
  refine ⟨true, _, rfl, ?_⟩
  repeat walk_at "lp"
  refine ⟨true, _, rfl, ?_⟩
  walk_at "lp"
  refine ⟨_, _, rfl, ?_⟩
  walk_at "lp"
  refine s_pairP (by decide) ?_
  repeat walk_at "lp"
  refine ⟨true, l, tl, .lst (pl.map .int), rfl, hw, ht, ixok_sq (b := true) good, fun e => (by rw [esw] at e; cases e), fun r e => ?_⟩
  rw [esw] at e
  cases e
  refine ⟨_, _, rfl, fun a ha => ?_⟩
  have y1 := word_sz hn
  repeat walk_at "lp"
  refine ⟨okd_str told_ok, okd_str told_ok, ?_⟩
  rw [eqD_same (okd_str told_ok)]
  refine of ?_
  repeat walk_at "lp"
  refine ⟨okd_word hw, okd_word hw, ?_⟩
  rw [eqD_same (okd_word hw)]
  refine of ?_
  repeat walk_at "lp"
  refine ⟨okd_ints, okd_ints, ?_⟩
  rw [eqD_same okd_ints]
  refine of (t_lend (i := 8) rfl ?_)
  repeat walk_at "lp"
  refine ⟨_, rfl, okd_word hn, y1.1, Nat.le_trans y1.2 (by decide), nbt ?_⟩
  repeat walk_at "lp"
  refine s_append (i := 8) rfl (small_size (by rw [List.length_map]; have := hn.2; omega)) ?_
  repeat walk_at "lp"
  refine ⟨okd_word hw, okd_word hw, ?_⟩
  rw [eqD_same (okd_word hw)]
  refine bt ?_
  repeat walk_at "lp"
  refine heard_dt true (.lst (pl.map .int)) hw ht (ixok_sq (b := true) good) fun rr er => ?_
  rw [er, esw]
  repeat walk_at "lp"
  refine ⟨by show 2 ≤ sizeLine; decide, ?_⟩
  walk_at "lp"
  have d1 : dOk (hs (some now)) := dok_hs fun r e => by cases e; exact hn
  exact ⟨_, rfl, d1.1, d1.2.1, Nat.le_trans d1.2.2 (by decide), p⟩
abbrev gW (j : Addr) (l : List Lt) (tl : List Dt) (pl : List Int) (now : List Lt) (th : List Dt) (a c : Addr) (S S' : List Dt) (e9 e10 e11 : Ent) : List Ent :=
  [.jar j, .val (.lst (l.map ltD)), .val (.tup tl), .val (.int ((l.map ltD).length : Nat)), .val (.lst (pl.map .int)), .val (.lst (now.map ltD)), .val (.lst th), .own a S, .own c S', e9, e10, e11]
theorem oks_snoc {S : List Dt} {d : Dt} (h : ∀ x ∈ S, dOk x) (hd : dOk d) : ∀ x ∈ S ++ [d], dOk x := fun x hx => by
  rcases List.mem_append.mp hx with q | q
  · exact h x q
  · rw [List.mem_singleton.mp q]; exact hd
theorem w_law_world_right (K : Fg) : OkJ K (tabs K) (F_law_world_right K) 12 9 (t_law_world_right K eN) := by
  rintro E j ds P ⟨l, tl, rfl, hw, ht, p⟩
  refine ⟨rfl, ?_⟩
  unfold t_law_world_right sp_law_walk sp_law_one sp_law_bent sp_law_lw_swapped sp_law_heard_swapped sp_law_heard_judged sp_law_lw_handed sp_law_yq_same sp_law_kept_right
  show SW K _ E _ _ [.jar j, .val (.lst (l.map ltD)), .val (.tup tl), .emp, .emp, .emp, .emp, .emp, .emp, .emp, .emp, .emp] _ _ _ _
  have hwl := hw.2
  walk_at "lp"
  walk_at "lp"
  walk_at "lp"
  walk_at "lp"
  refine .inl ⟨true, _, rfl, ?_⟩
  walk_at "lp"
  refine s_asgG (L := [4, 5]) ?_
  repeat walk_at "lp"
  refine ⟨by show 6 ≤ sizeLine; decide, ?_⟩
  walk_at "lp"
  refine ⟨true, _, rfl, by simp, by show 6 ≤ 1000; decide, fun x hx => ?_⟩
  obtain ⟨mm, rfl, hmm⟩ : ∃ mm : Nat, x = .int (mm : Nat) ∧ mm ≤ 1000 := by
    simp only [List.mem_cons, List.not_mem_nil, or_false] at hx
    rcases hx with rfl | rfl | rfl | rfl | rfl | rfl
    · exact ⟨0, rfl, by decide⟩
    · exact ⟨1, rfl, by decide⟩
    · exact ⟨3, rfl, by decide⟩
    · exact ⟨9, rfl, by decide⟩
    · exact ⟨40, rfl, by decide⟩
    · exact ⟨120, rfl, by decide⟩
  walk_at "lp"
  refine ⟨l, tl, mm, rfl, hw, ht, hmm, fun pl now eq hpl => ?_⟩
  have hn := swaps_ok hw eq
  have hpl' : pl.length ≤ 1000 := Nat.le_trans hpl hmm
  refine g_p (p_tup rfl (ps_cons (p_name (by simp) rfl (ps_cons (p_name (by simp) rfl (ps_nil ?_))))))
  walk_at "lp"
  refine s_asg (x_l (l_catM (EL.em (l_lst (a_cons (x_var rfl (a_nil ⟨by show 1 ≤ sizeLine; decide, EL.em (l_callJ rfl ?_)⟩)))))))
  repeat walk_at "lp"
  refine ⟨pl, (l.map ltD).length, rfl, by rw [List.length_map]; exact hwl, hpl', fun L hL hLl => ⟨_, rfl, small_size (by rw [List.length_map]; show 1 + L.length ≤ 10000; omega), ?_⟩⟩
  have thOk : ∀ {i : Nat} {d : Dt}, ([Dt.lst (pl.map .int)] ++ L.map .lst)[i]? = some d → ∃ ix, d = .lst ix ∧ GoodIx ix := fun h => by
    rcases List.mem_append.mp (List.mem_of_getElem? h) with q | q
    · exact ⟨_, List.mem_singleton.mp q, part_good (part_ints hpl') (by decide)⟩
    · obtain ⟨ix, hx, rfl⟩ := List.mem_map.mp q
      exact ⟨ix, rfl, hL ix hx⟩
  walk_at "lp"
  refine s_parO ?_
  repeat walk_at "lp"
  refine ⟨by decide, ?_⟩
  repeat walk_at "lp"
  refine ⟨by decide, fun a c ha hc hac => ?_⟩
  walk_at "lp"
  refine s_for ?_
  repeat walk_at "lp"
  refine .inl ⟨true, _, rfl, fun i Γ' => ∃ S e9 e10, Γ' = gW j l tl pl now ([Dt.lst (pl.map .int)] ++ L.map .lst) a c S S e9 e10 .emp ∧ noOwn Γ' 9 = true ∧ noOwn Γ' 10 = true ∧ (∀ d ∈ S, dOk d) ∧ S.length ≤ 3 * i, [9],
    ⟨[], .emp, .emp, rfl, rfl, rfl, by simp, by simp⟩, fun i d Γ' hd iv => ?_, fun Γ' iv => ?_⟩
  · obtain ⟨S, e9, e10, rfl, n9, n10, hS, hSl⟩ := iv
    obtain ⟨ix, rfl, hix⟩ := thOk hd
    have hi : i < 1 + L.length := by
      have := (List.getElem?_eq_some_iff.mp hd).1
      rw [List.length_append, List.length_map] at this
      exact this
    have hSs : S.length ≤ 200 := by omega
    refine g_p (p_name (by simp) n9 ?_)
    repeat walk_at "lp"
    refine ⟨l, tl, ix, rfl, hw, ht, hix.1, ?_⟩
    obtain ⟨o, ho⟩ : ∃ o, lwSwap tl ix l = o := ⟨_, rfl⟩
    have hoW : ∀ r, o = some r → WordOk r := fun r e => swaps_ok hw (ho.trans e)
    rw [ho]
    walk_at "lp"
    refine s_append (i := 7) rfl (small_size (by omega)) ?_
    repeat walk_at "lp"
    refine ⟨_, rfl, fun b => ?_⟩
    repeat walk_at "lp"
    refine ⟨true, ix, rfl, ?_⟩
    walk_at "lp"
    refine ⟨by show 2 ≤ sizeLine; decide, ?_⟩
    walk_at "lp"
    refine ⟨true, _, rfl, by simp, by show 2 ≤ 1000; decide, fun x hx => ?_⟩
    obtain ⟨c', rfl⟩ : ∃ c', x = sqD c' ix := by
      rcases List.mem_cons.mp hx with rfl | hx
      · exact ⟨true, rfl⟩
      · rw [List.mem_singleton.mp hx]; exact ⟨false, rfl⟩
    walk_at "lp"
    refine heard_dt b (sqD c' ix) hw ht (ixok_sq hix) fun rr er => ?_
    rw [swOf_sq, ho] at er
    rw [er]
    walk_at "lp"
    refine s_append (i := 8) rfl (small_size (by omega)) (EX.imp (P := fun d => d = hs o) ?_ fun d ed => ?_)
    · cases o with
      | none =>
        repeat walk_at "lp"
        refine bt ?_
        repeat walk_at "lp"
        exact ⟨by show 2 ≤ sizeLine; decide, rfl⟩
      | some r =>
        repeat walk_at "lp"
        refine bf ?_
        repeat walk_at "lp"
        exact ⟨by show 2 ≤ sizeLine; decide, rfl⟩
    subst ed
    walk_at "lp"
    refine s_append (i := 7) rfl (small_size (by rw [List.length_append]; show S.length + 1 + 1 ≤ 10000; omega)) ?_
    repeat walk_at "lp"
    refine ⟨_, rfl, fun b2 => ?_⟩
    repeat walk_at "lp"
    refine ⟨true, l, b2, now, tl, .lst ix, rfl, hw, hn, ht, ixok_sq (b := true) hix, ?_⟩
    have ej : jdB tl l now (.lst ix) = eqD (resD o) (.lst (now.map ltD)) := by rw [← ho]; rfl
    rw [ej]
    walk_at "lp"
    refine s_append (i := 8) rfl (small_size (by rw [List.length_append]; show S.length + 1 + 1 ≤ 10000; omega)) (EX.imp (P := fun d => d = .tup [.str "told", .bl (eqD (resD o) (.lst (now.map ltD)))]) ?_ fun d ed => ?_)
    · walk_at "lp"
      walk_at "lp"
      walk_at "lp"
      refine a_cons (EX.imp (P := fun d => d = .bl (eqD (resD o) (.lst (now.map ltD)))) ?_ fun d ed => a_nil ⟨by show 2 ≤ sizeLine; decide, by rw [ed]⟩)
      have okr : Okd (resD o) := by rw [← ho]; exact okd_res hw
      cases o with
      | none =>
        repeat walk_at "lp"
        refine bf ?_
        rw [show resD none = .non from rfl, eqD_nl]
      | some r =>
        repeat walk_at "lp"
        refine bt ?_
        repeat walk_at "lp"
        exact ⟨okr, okd_word hn, rfl⟩
    subst ed
    walk_at "lp"
    refine s_append (i := 7) rfl (small_size (by rw [List.length_append, List.length_append]; show S.length + 1 + 1 + 1 ≤ 10000; omega)) ?_
    repeat walk_at "lp"
    refine ⟨true, ix, rfl, ?_⟩
    walk_at "lp"
    refine ⟨true, l, true, now, tl, .tup ix, rfl, hw, hn, ht, ixok_sq (b := false) hix, ?_⟩
    refine s_append (i := 8) rfl (small_size (by rw [List.length_append, List.length_append]; show S.length + 1 + 1 + 1 ≤ 10000; omega)) ?_
    repeat walk_at "lp"
    refine ⟨by show 2 ≤ sizeLine; decide, ?_⟩
    exact ⟨S ++ [hs o] ++ [.tup [.str "told", .bl (eqD (resD o) (.lst (now.map ltD)))]] ++ [.tup [.str "told", .bl false]], _, _, rfl, rfl, rfl, oks_snoc (oks_snoc (oks_snoc hS (dok_hs hoW)) dok_bl) dok_bl, by rw [List.length_append, List.length_append, List.length_append]; show S.length + 1 + 1 + 1 ≤ 3 * (i + 1); omega⟩
  · obtain ⟨S, e9, e10, rfl, n9, n10, hS, hSl⟩ := iv
    have hSs : S.length ≤ 200 := by
      rw [List.length_append, List.length_map] at hSl
      have : S.length ≤ 3 * (1 + L.length) := hSl
      omega
    walk_at "lp"
    refine s_for ?_
    repeat walk_at "lp"
    refine x_dnew ?_
    repeat walk_at "lp"
    refine ⟨by show 5 ≤ sizeLine; decide, .inl ⟨true, _, rfl, fun i Γ' => ∃ S e11, Γ' = gW j l tl pl now ([Dt.lst (pl.map .int)] ++ L.map .lst) a c S S e9 e10 e11 ∧ noOwn Γ' 11 = true ∧ (∀ d ∈ S, dOk d) ∧ S.length ≤ 200 + 2 * i, [11],
      ⟨S, .emp, rfl, rfl, hS, by omega⟩, fun i d Γ' hd iv => ?_, fun Γ' iv => ?_⟩⟩
    · obtain ⟨S, e11, rfl, n11, hS, hSl⟩ := iv
      have hi : i < 5 := (List.getElem?_eq_some_iff.mp hd).1
      have hdt : TyOk d ∧ ∀ c ix, d ≠ sqD c ix := by
        have hm := List.mem_of_getElem? hd
        simp only [List.mem_cons, List.not_mem_nil, or_false] at hm
        rcases hm with rfl | rfl | rfl | rfl | rfl <;> exact ⟨⟨_, rfl⟩, fun c ix => by cases c <;> exact fun z => (nomatch z)⟩
      have hxo := ixok_no hdt.1 hdt.2
      have ejd : jdB tl l l d = false := by
        cases d with
        | lst ix => exact (hdt.2 true ix rfl).elim
        | _ => rfl
      refine g_p (p_name (by simp) n11 ?_)
      walk_at "lp"
      refine s_extend (i := 7) rfl ?_
      repeat walk_at "lp"
      refine heard_dt true d hw ht hxo fun rr er => ?_
      rw [swOf_no hdt.2] at er
      rw [er]
      walk_at "lp"
      refine ⟨by show 1 ≤ sizeLine; decide, small_size (by show S.length + 1 ≤ 10000; omega), ?_⟩
      walk_at "lp"
      refine s_extend (i := 7) rfl ?_
      repeat walk_at "lp"
      refine ⟨true, l, true, l, tl, d, rfl, hw, hw, ht, hxo, ?_⟩
      rw [ejd]
      walk_at "lp"
      refine ⟨by show 1 ≤ sizeLine; decide, small_size (by rw [List.length_append]; show S.length + 1 + 1 ≤ 10000; omega), ?_⟩
      refine s_extend (i := 8) rfl ?_
      repeat walk_at "lp"
      refine ⟨by show 2 ≤ sizeLine; decide, ?_⟩
      repeat walk_at "lp"
      refine ⟨by show 2 ≤ sizeLine; decide, ?_⟩
      walk_at "lp"
      refine ⟨by show 2 ≤ sizeLine; decide, small_size (by show S.length + 2 ≤ 10000; omega), S ++ [hs none] ++ [.tup [.str "told", .bl false]], .val d, ?_, rfl, oks_snoc (oks_snoc hS (dok_hs fun r e => (nomatch e))) dok_bl, by rw [List.length_append, List.length_append]; show S.length + 1 + 1 ≤ 200 + 2 * (i + 1); omega⟩
      show gW j l tl pl now _ a c (S ++ [hs none] ++ [.tup [.str "told", .bl false]]) (S ++ [hs none, .tup [.str "told", .bl false]]) e9 e10 (.val d) = _
      rw [List.append_assoc]
      rfl
    · obtain ⟨S, e11, rfl, n11, hS, hSl⟩ := iv
      have hSl' : S.length ≤ 210 := hSl
      walk_at "lp"
      refine s_extend (i := 7) rfl ?_
      repeat walk_at "lp"
      refine ⟨by decide, ?_⟩
      walk_at "lp"
      refine heard_dt true (.tup []) hw ht (ixok_sq (b := false) ⟨by simp, by simp⟩) fun rr er => ?_
      rw [show swOf tl l (.tup []) = some l from rfl] at er
      rw [er]
      repeat walk_at "lp"
      refine ⟨by decide, ?_⟩
      walk_at "lp"
      refine ⟨true, l, true, l, tl, .lst [], rfl, hw, hw, ht, ixok_sq (b := true) ⟨by simp, by simp⟩, ?_⟩
      have ejd : jdB tl l l (.lst []) = true := eqD_same (okd_word hw)
      rw [ejd]
      walk_at "lp"
      refine ⟨by show 2 ≤ sizeLine; decide, small_size (by show S.length + 2 ≤ 10000; omega), ?_⟩
      walk_at "lp"
      refine s_extend (i := 8) rfl ?_
      repeat walk_at "lp"
      refine ⟨by show 2 ≤ sizeLine; decide, ?_⟩
      repeat walk_at "lp"
      refine ⟨by show 2 ≤ sizeLine; decide, ?_⟩
      walk_at "lp"
      refine ⟨by show 2 ≤ sizeLine; decide, small_size (by show S.length + 2 ≤ 10000; omega), ?_⟩
      refine s_forget (i := 7) rfl (s_forget (i := 8) rfl ?_)
      have hall : ∀ d ∈ S ++ [hs (some l), .tup [.str "told", .bl true]], dOk d := fun d hd => by
        rcases List.mem_append.mp hd with q | q
        · exact hS d q
        · rcases List.mem_cons.mp q with rfl | q
          · exact dok_hs fun r e => by cases e; exact hw
          · rw [List.mem_singleton.mp q]; exact dok_bl
      have fin := dok_list hall (by rw [List.length_append]; show S.length + 2 ≤ 100000; omega)
      repeat walk_at "lp"
      refine ⟨.lst (S ++ [hs (some l), .tup [.str "told", .bl true]]), rfl, fin.1, fin.2.1, fin.2.2, bt ?_⟩
      repeat walk_at "lp"
      exact ⟨l, tl, pl, now, rfl, hw, ht, hpl', eq, p⟩
theorem w_law (K : Fg) (E : XK) : OkD K (tabs K) E (F_law K) 4 3 (t_law K E) := by
  rintro ds P X ⟨ns, rfl, hlen, hbits, p⟩
  refine ⟨rfl, ?_⟩
  unfold t_law sp_law_pool sp_law_lw_words_names sp_law_one sp_law_world_right sp_law_lw_word sp_law_lw_ties
  show SW K _ E X _ [.val (.lst (ns.map .int)), .emp, .emp, .emp] _ _ _ _
  refine s_jar rfl ?_ fun a => ?_
  · repeat walk_at "lp"
    exact ⟨ns, rfl, hlen, hbits, fun x y z h1 h2 => ⟨x, y, z, rfl, h1, h2⟩⟩
  walk_at "lp"
  refine s_for ?_
  repeat walk_at "lp"
  refine ⟨by show 8 ≤ sizeLine; decide, .inl ⟨true, _, rfl, fun i Γ' => ∃ e2 e3, Γ' = [.val (.lst (ns.map .int)), .jar a, e2, e3] ∧ noOwn Γ' 2 = true ∧ noOwn Γ' 3 = true, [2], ⟨.emp, .emp, rfl, rfl, rfl⟩, fun i d Γ' hd iv => ?_, fun Γ' iv => ?_⟩⟩
  · obtain ⟨e2, e3, rfl, n2, n3⟩ := iv
    obtain ⟨m, rfl, hm⟩ : ∃ m : Nat, d = .int (m : Nat) ∧ m ≤ 100 := by
      have hx := List.mem_of_getElem? hd
      simp only [List.mem_cons, List.not_mem_nil, or_false] at hx
      rcases hx with rfl | rfl | rfl | rfl | rfl | rfl | rfl | rfl
      · exact ⟨60, rfl, by decide⟩
      · exact ⟨20, rfl, by decide⟩
      · exact ⟨9, rfl, by decide⟩
      · exact ⟨5, rfl, by decide⟩
      · exact ⟨3, rfl, by decide⟩
      · exact ⟨2, rfl, by decide⟩
      · exact ⟨1, rfl, by decide⟩
      · exact ⟨0, rfl, by decide⟩
    refine g_p (p_name (by simp) n2 ?_)
    repeat walk_at "lp"
    refine ⟨by show 4 ≤ sizeLine; decide, ?_⟩
    walk_at "lp"
    refine ⟨true, _, rfl, by simp, by show 4 ≤ 1000; decide, fun x hx => ?_⟩
    obtain ⟨k, rfl, hk2, hk8⟩ : ∃ k : Nat, x = .int (k : Nat) ∧ 2 ≤ k ∧ k ≤ 8 := by
      simp only [List.mem_cons, List.not_mem_nil, or_false] at hx
      rcases hx with rfl | rfl | rfl | rfl
      · exact ⟨8, rfl, by decide, by decide⟩
      · exact ⟨5, rfl, by decide, by decide⟩
      · exact ⟨3, rfl, by decide, by decide⟩
      · exact ⟨2, rfl, by decide, by decide⟩
    walk_at "lp"
    refine ⟨k, rfl, by omega, fun ys hnd hyl hok => ?_⟩
    have hns : NamesOk ys := ⟨hnd, hok, by omega, by omega⟩
    repeat walk_at "lp"
    refine ⟨ys, m, rfl, hns, hm, fun l hl hw => ?_⟩
    repeat walk_at "lp"
    refine ⟨ys, rfl, hns, fun tl ht => ?_⟩
    walk_at "lp"
    refine ⟨l, tl, rfl, hw, ht, nbt ?_⟩
    repeat walk_at "lp"
    exact ⟨_, _, rfl, rfl, rfl⟩
  · obtain ⟨e2, e3, rfl, n2, n3⟩ := iv
    repeat walk_at "lp"
    exact ⟨true, rfl, p⟩
end Lp.K68

set_option Elab.async false
set_option linter.all false
set_option maxRecDepth 100000
set_option maxHeartbeats 4000000
/-! k68D: each def's text has its reading, printed by gen.py. -/
namespace Lp.K68
open PySem PySem.Spec PyProof.Rows L2 LamX Lp
abbrev Hd := HdF fa fn tf exB
/-- an own exception's class -/
structure OxOk (K : Fg) (C : Addr) (f : Str) (fI : Addr) : Prop where
  ex : OexC K C
  xf : XfC K C
  no : PySem.W.findIn K (.ref C) f = some none
  ini : PySem.W.findIn K (.ref C) "__init__" = some (some (.ref fI))
  ty : PySem.W.typeIn K (.ref fI) = some (.type "function")
theorem excB_ok {K : Fg} {x f : Str} (h : excB K x f = true) : OxOk K (He.ga K x) f (He.ma K (He.ga K x) "__init__") := by
  obtain ⟨h1, h⟩ := ba2 h
  obtain ⟨h2, h⟩ := ba2 h
  obtain ⟨h3, h⟩ := ba2 h
  obtain ⟨h4, h5⟩ := ba2 h
  exact ⟨oexB_ok h1, xfB_ok h2, of_decide_eq_true h3, of_decide_eq_true h4, of_decide_eq_true h5⟩
section
variable {P : Program} {w : World} {K : Fg} {mg : Str → Option Value} {base : Heap}
theorem ox0_BadPart (T : Hd w K mg base) : OxOk K (He.ga K "BadPart") "part" (He.ma K (He.ga K "BadPart") "__init__") := excB_ok (ba2 T.more).1
theorem ox0_BadTies (T : Hd w K mg base) : OxOk K (He.ga K "BadTies") "index" (He.ma K (He.ga K "BadTies") "__init__") := excB_ok (ba2 (ba2 T.more).2).1
theorem ox0_BadWord (T : Hd w K mg base) : OxOk K (He.ga K "BadWord") "index" (He.ma K (He.ga K "BadWord") "__init__") := excB_ok (ba2 (ba2 (ba2 T.more).2).2).1
theorem st_StoreError (T : Hd w K mg base) : StBase K (He.ga K "StoreError") := stB_ok (ba2 (ba2 (ba2 (ba2 T.more).2).2).2).1
theorem tf_nd (T : Hd w K mg base) : (tf.map fun q => (He.cT K q).2).Nodup := of_decide_eq_true (ba2 (ba2 (ba2 (ba2 (ba2 T.more).2).2).2).2).2
theorem exm_BadPart (T : Hd w K mg base) : ExmF K := T.exm 57
theorem spX_len {C : Addr} {f : Str} {vs : List V} {H : Hp} {Q : VK} {E : XK} (h : spX C f vs H Q E) : vs.length = 2 := by
  obtain ⟨a, v, rfl, _⟩ := h
  rfl
/-- what such an __init__ does -/
theorem spX_body {C : Addr} {f m : Str} {fI : Addr} {vs : List V} {H : Hp} {Q : VK} {E : XK} (o : OxOk K C f fI) (h : spX C f vs H Q E) {n1 n2 : Str} :
    (tSeq (tDrop (tVeI K (tCons (tVar 0) (tCons (tC (.str m)) tNil)))) (tOst K f (tVar 0) (tVar 1))) { nx := fun _ H' => Q .non H', rt := Q } (L2.start [n1, n2] vs) H := by
  obtain ⟨a, v, rfl, h1, h2⟩ := h
  refine ⟨.ref a, rfl, a, C, [.str m], rfl, by show 1 ≤ 1000; decide, o.ex, h1, ?_⟩
  refine ⟨v, rfl, .ref a, rfl, a, C, rfl, o.ex, o.no, .inl ⟨h1, fun dx hd hne => h2 dx hd hne⟩⟩
/-- x(lambda: ..) where x is the def that is handed a lambda -/
theorem lamc_law_ear {X : Cx} (T : Hd X.w X.K X.mg X.base) {nm : Str} {k : Nat} {params : Arguments} {body : Expr} {scope : Scope} {t : XK → TE} {p lpos pos : Pos} (hq : ((nm, none) : He.Defn) ∈ tf) (hqual : X.env.qual = nm ++ ".<locals>.")
    (hcode : X.env.code = .ref (He.cT X.K (nm, none)).1) (hr : Room (k + 2) X.A) (L : LamS X.env.scope scope)
    (hbody : ∀ (A : Around) (outer : List Env) (s : Shared) (H : Hp) (E : XK) (f c' : Addr), Room k (A.deeper (lamEnv X scope s.heap.objs.size f c')) → PE (lamCx X A outer s H E scope f c') body (t E))
    (hg : Gl X "_law_ear" := by rfl) (hdef : defaultsOf params X.env = ([], []) := by rfl)
    (hbind : ∀ (q : Str) (cl : List (Str × Addr)) (pm cv ctv : Value), bindArgs (PySem.W.kla_fn "<lambda>" q params body scope cl pm cv ctv) ⟨[], []⟩ = pure [] := by intros; rfl) :
    PE X (.Call (.Name "_law_ear" p) [.Lambda params body scope lpos] [] pos) (tLam (tabs X.K) (TTh X.K "told" (hL X.K)) t) := by
  obtain ⟨fd, F⟩ := T.def_ 32 (d := d_law_ear)
  have S : FnScope ["call", "refused_one"] ["call"] (defScope st_law_ear) := ⟨rfl, rfl, rfl, by decide +kernel, rfl, by decide +kernel, by decide +kernel⟩
  have o1 := ox0_BadPart T
  have o2 := ox0_BadWord T
  refine pe_lamD F (F.bindsN fun _ _ _ _ _ _ us hl => match us, hl with | [_], _ => rfl) hg (T.glo 56) S rfl (.inl rfl) (fun cdv => ?_) (T.tb _ hq) hcode (by rw [hqual]; exact tabs_in hq) (by rw [hqual]; exact tabs_hu (tf_nd T) hq) hr L hdef hbind hbody
  refine heard_gives (L := hL X.K) (i := 1) (by decide) (by decide) fun s H => ?_
  refine .cons ⟨rfl, by decide, .inl (T.glo 1)⟩ ⟨S.nd, rfl, rfl⟩ (fun a oe cls d pn hz hf => pss_one (ps_ret (pe_tup (pa_cons pe_str (pa_cons (pe_xf o1.xf o1.no hz hf (pv 1)) pa_nil))))) ?_
  refine .cons ⟨rfl, by decide, .inl (T.glo 16)⟩ ⟨S.nd, rfl, rfl⟩ (fun a oe cls d pn hz hf => pss_one (ps_ret (pe_tup (pa_cons pe_str (pa_cons (pe_xf o2.xf o2.no hz hf (pv 1)) pa_nil))))) ?_
  exact .cons ⟨rfl, by decide, .inl (T.glo 0)⟩ trivial (fun a oe cls d pn hz hf => pss_one (ps_ret (pe_tup (pa_cons pe_str (pa_cons pe_non pa_nil))))) .nil
theorem sc_BadPart___init : FnScope ["self", "part"] ["self", "part"] (defScope st_BadPart___init) := ⟨rfl, rfl, rfl, by decide +kernel, rfl, by decide +kernel, by decide +kernel⟩
theorem ok_BadPart___init (T : Hd w K mg base) : ∃ (fI : Addr) (fd : FuncData), fI = He.ma K (He.ga K "BadPart") "__init__" ∧ FnOk P w K mg base (L2.CX P w) 3 fI fd ["self", "part"] (sp_BadPart___init K) ∧ Binds K fd ["self", "part"] [] := by
  obtain ⟨fd, F⟩ := T.def_ 0 (d := d_BadPart___init)
  have S := sc_BadPart___init
  refine ⟨_, fd, rfl, F.ok S (fun vs H Q E h => spX_len h) (fun cdv A outer s H vs Q E hr h => ⟨t_BadPart___init K E, ?_, spX_body (ox0_BadPart T) h⟩), F.bindsN fun _ _ _ _ _ _ us hl => match us, hl with | [_, _], _ => rfl⟩
  exact (pss_cons (ps_expr (pe_stinit rfl (T.glo 0) (st_StoreError T) (pa_cons (pv 0) (pa_cons pe_str pa_nil))))
      (pss_one (ps_ost (pv 0) (pv 1))))
theorem ox_BadPart (T : Hd w K mg base) : Cx1 P w K mg base 3 "BadPart" (He.ga K "BadPart") (sp_BadPart___init K) := by
  obtain ⟨fI, fd, e, h1, h2⟩ := ok_BadPart___init (P := P) T
  subst e
  have o := ox0_BadPart T
  exact ⟨_, fd, ["self", "part"], o.ex, o.ini, o.ty, h1, h2, (T.glo 1)⟩
theorem sc_is_integer : FnScope ["value"] ["value"] (defScope st_is_integer) := ⟨rfl, rfl, rfl, by decide +kernel, rfl, by decide +kernel, by decide +kernel⟩
theorem ok_is_integer (T : Hd w K mg base) : Cd P w K mg base 1 "is_integer" (sp_is_integer K) [] := by
  obtain ⟨fd, F⟩ := T.def_ 1 (d := d_is_integer)
  have S := sc_is_integer
  refine ⟨_, fd, ["value"], [], F.ok S (fun vs H Q E h => (w_is_integer K E).len h) (fun cdv A outer s H vs Q E hr h => ⟨t_is_integer K E, ?_, (w_is_integer K E).body h⟩), T.glo 5, F.kp, F.bindsN fun _ _ _ _ _ _ us hl => match us, hl with | [_], _ => rfl, .nil⟩
  exact (pss_one (ps_ret (pe_and (pe_callB call_isi (by rfl) (T.free 2) bb_isinstance (pa_cons (pv 0) (pa_cons (pe_bltn (v := .ty "int") rfl (T.free 3) bt_int rfl) pa_nil))) (pe_one (pe_not (pe_callB call_isi (by rfl) (T.free 2) bb_isinstance (pa_cons (pv 0) (pa_cons (pe_bltn (v := .ty "bool") rfl (T.free 4) bt_bool rfl) pa_nil))))))))
theorem sc_is_between : FnScope ["value", "least", "most"] ["value", "least", "most"] (defScope st_is_between) := ⟨rfl, rfl, rfl, by decide +kernel, rfl, by decide +kernel, by decide +kernel⟩
theorem ok_is_between (T : Hd w K mg base) : Cd P w K mg base 2 "is_between" (sp_is_between K) [] := by
  obtain ⟨fd, F⟩ := T.def_ 2 (d := d_is_between)
  have S := sc_is_between
  refine ⟨_, fd, ["value", "least", "most"], [], F.ok S (fun vs H Q E h => (w_is_between K E).len h) (fun cdv A outer s H vs Q E hr h => ⟨t_is_between K E, ?_, (w_is_between K E).body h⟩), T.glo 6, F.kp, F.bindsN fun _ _ _ _ _ _ us hl => match us, hl with | [_, _, _], _ => rfl, .nil⟩
  exact (pss_one (ps_ret (pe_and (pe_cd (ok_is_integer T) hr (by omega) passE0 rfl (pa_cons (pv 0) pa_nil)) (pe_one (pe_chain op_uLe op_uLe (pv 1) (pv 0) (pv 2))))))
theorem sc_is_value : FnScope ["value"] ["value"] (defScope st_is_value) := ⟨rfl, rfl, rfl, by decide +kernel, rfl, by decide +kernel, by decide +kernel⟩
theorem ok_is_value (T : Hd w K mg base) : Cd P w K mg base 3 "is_value" (sp_is_value K) [] := by
  obtain ⟨fd, F⟩ := T.def_ 3 (d := d_is_value)
  have S := sc_is_value
  refine ⟨_, fd, ["value"], [], F.ok S (fun vs H Q E h => (w_is_value K E).len h) (fun cdv A outer s H vs Q E hr h => ⟨t_is_value K E, ?_, (w_is_value K E).body h⟩), T.glo 8, F.kp, F.bindsN fun _ _ _ _ _ _ us hl => match us, hl with | [_], _ => rfl, .nil⟩
  exact (pss_one (ps_ret (pe_cd (ok_is_between T) hr (by omega) passE0 rfl (pa_cons (pv 0) (pa_cons pe_int (pa_cons (C8.pe_gc rfl (T.int 7)) pa_nil))))))
theorem sc_is_name : FnScope ["value", "sign"] ["value"] (defScope st_is_name) := ⟨rfl, rfl, rfl, by decide +kernel, rfl, by decide +kernel, by decide +kernel⟩
theorem ok_is_name (T : Hd w K mg base) : Cd P w K mg base 1 "is_name" (sp_is_name K) [] := by
  obtain ⟨fd, F⟩ := T.def_ 4 (d := d_is_name)
  have S := sc_is_name
  refine ⟨_, fd, ["value"], [], F.ok S (fun vs H Q E h => (w_is_name K E).len h) (fun cdv A outer s H vs Q E hr h => ⟨t_is_name K E, ?_, (w_is_name K E).body h⟩), T.glo 14, F.kp, F.bindsN fun _ _ _ _ _ _ us hl => match us, hl with | [_], _ => rfl, .nil⟩
  exact (pss_one (ps_ret (pe_and (pe_callB call_isi (by rfl) (T.free 2) bb_isinstance (pa_cons (pv 0) (pa_cons (pe_bltn (v := .ty "str") rfl (T.free 9) bt_str rfl) pa_nil))) (pe_and (pe_chain op_uLe op_uLe pe_int (pe_callB cl_uLen (by rfl) (T.free 10) bb_len (pa_cons (pv 0) pa_nil)) (C8.pe_gc rfl (T.int 11))) (pe_one (pe_callB (cr_all rfl) (by rfl) (T.free 12) bb_all (pa_cons (pe_lc (own := [("sign", 1)]) rfl S.nd (pi_u (pv 0)) (blkOk_by (own := [("sign", 1)]) (by kernel_rfl)) (fun _ _ _ _ _ => (pg_n 1 S.nd)) (fun _ _ _ _ _ => pts_nil) (fun _ _ _ _ _ => (pe_cmpR (op_vIn (units65 hr)) (pv 1) (C8.pe_gc rfl (T.str 13)) (by rfl)))) pa_nil)))))))
theorem sc_BadTies___init : FnScope ["self", "index"] ["self", "index"] (defScope st_BadTies___init) := ⟨rfl, rfl, rfl, by decide +kernel, rfl, by decide +kernel, by decide +kernel⟩
theorem ok_BadTies___init (T : Hd w K mg base) : ∃ (fI : Addr) (fd : FuncData), fI = He.ma K (He.ga K "BadTies") "__init__" ∧ FnOk P w K mg base (L2.CX P w) 2 fI fd ["self", "index"] (sp_BadTies___init K) ∧ Binds K fd ["self", "index"] [] := by
  obtain ⟨fd, F⟩ := T.def_ 5 (d := d_BadTies___init)
  have S := sc_BadTies___init
  refine ⟨_, fd, rfl, F.ok S (fun vs H Q E h => spX_len h) (fun cdv A outer s H vs Q E hr h => ⟨t_BadTies___init K E, ?_, spX_body (ox0_BadTies T) h⟩), F.bindsN fun _ _ _ _ _ _ us hl => match us, hl with | [_, _], _ => rfl⟩
  exact (pss_cons (ps_expr (pe_stinit rfl (T.glo 0) (st_StoreError T) (pa_cons (pv 0) (pa_cons pe_str pa_nil))))
      (pss_one (ps_ost (pv 0) (pv 1))))
theorem ox_BadTies (T : Hd w K mg base) : Cx1 P w K mg base 2 "BadTies" (He.ga K "BadTies") (sp_BadTies___init K) := by
  obtain ⟨fI, fd, e, h1, h2⟩ := ok_BadTies___init (P := P) T
  subst e
  have o := ox0_BadTies T
  exact ⟨_, fd, ["self", "index"], o.ex, o.ini, o.ty, h1, h2, (T.glo 15)⟩
theorem sc_BadWord___init : FnScope ["self", "index"] ["self", "index"] (defScope st_BadWord___init) := ⟨rfl, rfl, rfl, by decide +kernel, rfl, by decide +kernel, by decide +kernel⟩
theorem ok_BadWord___init (T : Hd w K mg base) : ∃ (fI : Addr) (fd : FuncData), fI = He.ma K (He.ga K "BadWord") "__init__" ∧ FnOk P w K mg base (L2.CX P w) 1 fI fd ["self", "index"] (sp_BadWord___init K) ∧ Binds K fd ["self", "index"] [] := by
  obtain ⟨fd, F⟩ := T.def_ 6 (d := d_BadWord___init)
  have S := sc_BadWord___init
  refine ⟨_, fd, rfl, F.ok S (fun vs H Q E h => spX_len h) (fun cdv A outer s H vs Q E hr h => ⟨t_BadWord___init K E, ?_, spX_body (ox0_BadWord T) h⟩), F.bindsN fun _ _ _ _ _ _ us hl => match us, hl with | [_, _], _ => rfl⟩
  exact (pss_cons (ps_expr (pe_stinit rfl (T.glo 0) (st_StoreError T) (pa_cons (pv 0) (pa_cons pe_str pa_nil))))
      (pss_one (ps_ost (pv 0) (pv 1))))
theorem ox_BadWord (T : Hd w K mg base) : Cx1 P w K mg base 1 "BadWord" (He.ga K "BadWord") (sp_BadWord___init K) := by
  obtain ⟨fI, fd, e, h1, h2⟩ := ok_BadWord___init (P := P) T
  subst e
  have o := ox0_BadWord T
  exact ⟨_, fd, ["self", "index"], o.ex, o.ini, o.ty, h1, h2, (T.glo 16)⟩
theorem sc_is_tie : FnScope ["value"] ["value"] (defScope st_is_tie) := ⟨rfl, rfl, rfl, by decide +kernel, rfl, by decide +kernel, by decide +kernel⟩
theorem ok_is_tie (T : Hd w K mg base) : Cd P w K mg base 2 "is_tie" (sp_is_tie K) [] := by
  obtain ⟨fd, F⟩ := T.def_ 7 (d := d_is_tie)
  have S := sc_is_tie
  refine ⟨_, fd, ["value"], [], F.ok S (fun vs H Q E h => (w_is_tie K E).len h) (fun cdv A outer s H vs Q E hr h => ⟨t_is_tie K E, ?_, (w_is_tie K E).body h⟩), T.glo 18, F.kp, F.bindsN fun _ _ _ _ _ _ us hl => match us, hl with | [_], _ => rfl, .nil⟩
  exact (pss_cons (ps_if (PW.pt (pw_or (pt_not (pt_val (pe_callB call_isi (by rfl) (T.free 2) bb_isinstance (pa_cons (pv 0) (pa_cons (pe_bltn (v := .ty "tuple") rfl (T.free 17) bt_tuple rfl) pa_nil))))) (pw_or1 (pt_cmpR (op_uNe hr.units) (pe_callB cl_uLen (by rfl) (T.free 10) bb_len (pa_cons (pv 0) pa_nil)) pe_int (nomark _))))) (pss_one (ps_ret pe_bl)) pss_nil)
      (pss_one (ps_ret (pe_and (pe_cd (ok_is_name T) hr (by omega) passE0 rfl (pa_cons (pe_ix ix_seq (pv 0) pe_int (fun _ _ => rfl)) pa_nil)) (pe_and (pe_cd (ok_is_name T) hr (by omega) passE0 rfl (pa_cons (pe_ix ix_seq (pv 0) pe_int (fun _ _ => rfl)) pa_nil)) (pe_one (pe_cmpR (op_vLt (units0 hr)) (pe_ix ix_seq (pv 0) pe_int (fun _ _ => rfl)) (pe_ix ix_seq (pv 0) pe_int (fun _ _ => rfl)) (nomark _))))))))
theorem sc_check_ties_among : FnScope ["ties", "names", "last", "index", "tie"] ["ties", "names"] (defScope st_check_ties_among) := ⟨rfl, rfl, rfl, by decide +kernel, rfl, by decide +kernel, by decide +kernel⟩
theorem ok_check_ties_among (T : Hd w K mg base) : Cd P w K mg base 4 "check_ties_among" (sp_check_ties_among K) [] := by
  obtain ⟨fd, F⟩ := T.def_ 8 (d := d_check_ties_among)
  have S := sc_check_ties_among
  refine ⟨_, fd, ["ties", "names"], [], F.ok S (fun vs H Q E h => (w_check_ties_among K E).len h) (fun cdv A outer s H vs Q E hr h => ⟨t_check_ties_among K E, ?_, (w_check_ties_among K E).body h⟩), T.glo 20, F.kp, F.bindsN fun _ _ _ _ _ _ us hl => match us, hl with | [_, _], _ => rfl, .nil⟩
  exact (pss_cons (ps_if (pt_not (pt_val (pe_callB call_isi (by rfl) (T.free 2) bb_isinstance (pa_cons (pv 0) (pa_cons (pe_bltn (v := .ty "tuple") rfl (T.free 17) bt_tuple rfl) pa_nil))))) (pss_one (ps_raise rfl (takes_of rfl rfl rfl rfl) (pmk_x (ox_BadTies T) hr (by omega) rfl (pa_cons pe_non pa_nil)))) pss_nil)
      (pss_cons (ps_s 2 S.nd pe_non)
      (pss_one (ps_for (passes_of rfl) rfl (pi_enumU (by rfl) (T.free 19) (pa_cons (pv 0) pa_nil)) (pg_tup rfl (pgs_cons (pg_n 3 S.nd) (pgs_cons (pg_n 4 S.nd) pgs_nil))) (pss_cons (ps_if (PW.pt (pw_or (pt_not (pt_val (pe_cd (ok_is_tie T) hr (by omega) passE0 rfl (pa_cons (pv 4) pa_nil)))) (pw_or1 (PW.pt (pw_and (pt_cmpR op_uNotN (pv 2) pe_non (nomark _)) (pw_and1 (pt_not (pt_cmpR (op_vLt (units0 hr)) (pv 2) (pv 4) (nomark _))))))))) (pss_one (ps_raise rfl (takes_of rfl rfl rfl rfl) (pmk_x (ox_BadTies T) hr (by omega) rfl (pa_cons (pv 3) pa_nil)))) pss_nil)
      (pss_cons (ps_if (PW.pt (pw_and (pt_cmpR op_uNotN (pv 1) pe_non (nomark _)) (pw_and1 (PW.pt (pw_or (pt_cmpR (op_vNin (units65 hr)) (pe_ix ix_seq (pv 4) pe_int (fun _ _ => rfl)) (pv 1) (by rfl)) (pw_or1 (pt_cmpR (op_vNin (units65 hr)) (pe_ix ix_seq (pv 4) pe_int (fun _ _ => rfl)) (pv 1) (by rfl)))))))) (pss_one (ps_raise rfl (takes_of rfl rfl rfl rfl) (pmk_x (ox_BadTies T) hr (by omega) rfl (pa_cons (pv 3) pa_nil)))) pss_nil)
      (pss_one (ps_s 2 S.nd (pv 4)))))))))
theorem sc_check_ties : FnScope ["ties"] ["ties"] (defScope st_check_ties) := ⟨rfl, rfl, rfl, by decide +kernel, rfl, by decide +kernel, by decide +kernel⟩
theorem ok_check_ties (T : Hd w K mg base) : Cd P w K mg base 5 "check_ties" (sp_check_ties K) [] := by
  obtain ⟨fd, F⟩ := T.def_ 9 (d := d_check_ties)
  have S := sc_check_ties
  refine ⟨_, fd, ["ties"], [], F.ok S (fun vs H Q E h => (w_check_ties K E).len h) (fun cdv A outer s H vs Q E hr h => ⟨t_check_ties K E, ?_, (w_check_ties K E).body h⟩), T.glo 21, F.kp, F.bindsN fun _ _ _ _ _ _ us hl => match us, hl with | [_], _ => rfl, .nil⟩
  exact (pss_one (ps_expr (pe_cd (ok_check_ties_among T) hr (by omega) passE0 rfl (pa_cons (pv 0) (pa_cons pe_non pa_nil)))))
theorem sc_is_bound : FnScope ["ties", "one", "other"] ["ties", "one", "other"] (defScope st_is_bound) := ⟨rfl, rfl, rfl, by decide +kernel, rfl, by decide +kernel, by decide +kernel⟩
theorem ok_is_bound (T : Hd w K mg base) : Cd P w K mg base 1 "is_bound" (sp_is_bound K) [] := by
  obtain ⟨fd, F⟩ := T.def_ 10 (d := d_is_bound)
  have S := sc_is_bound
  refine ⟨_, fd, ["ties", "one", "other"], [], F.ok S (fun vs H Q E h => (w_is_bound K E).len h) (fun cdv A outer s H vs Q E hr h => ⟨t_is_bound K E, ?_, (w_is_bound K E).body h⟩), T.glo 22, F.kp, F.bindsN fun _ _ _ _ _ _ us hl => match us, hl with | [_, _, _], _ => rfl, .nil⟩
  exact (pss_one (ps_ret (pe_or (pe_cmpR (op_uEq hr.units) (pv 1) (pv 2) (nomark _)) (pe_or (pe_cmpR (op_vIn (units65 hr)) (pe_tup (pa_cons (pv 1) (pa_cons (pv 2) pa_nil))) (pv 0) (by rfl)) (pe_one (pe_cmpR (op_vIn (units65 hr)) (pe_tup (pa_cons (pv 2) (pa_cons (pv 1) pa_nil))) (pv 0) (by rfl)))))))
theorem sc_is_letter : FnScope ["value", "values", "one"] ["value"] (defScope st_is_letter) := ⟨rfl, rfl, rfl, by decide +kernel, rfl, by decide +kernel, by decide +kernel⟩
theorem ok_is_letter (T : Hd w K mg base) : Cd P w K mg base 4 "is_letter" (sp_is_letter K) [] := by
  obtain ⟨fd, F⟩ := T.def_ 11 (d := d_is_letter)
  have S := sc_is_letter
  refine ⟨_, fd, ["value"], [], F.ok S (fun vs H Q E h => (w_is_letter K E).len h) (fun cdv A outer s H vs Q E hr h => ⟨t_is_letter K E, ?_, (w_is_letter K E).body h⟩), T.glo 24, F.kp, F.bindsN fun _ _ _ _ _ _ us hl => match us, hl with | [_], _ => rfl, .nil⟩
  exact (pss_cons (ps_if (PW.pt (pw_or (pt_not (pt_val (pe_callB call_isi (by rfl) (T.free 2) bb_isinstance (pa_cons (pv 0) (pa_cons (pe_bltn (v := .ty "tuple") rfl (T.free 17) bt_tuple rfl) pa_nil))))) (pw_or (pt_cmpR (op_uNe hr.units) (pe_callB cl_uLen (by rfl) (T.free 10) bb_len (pa_cons (pv 0) pa_nil)) pe_int (nomark _)) (pw_or1 (pt_not (pt_val (pe_cd (ok_is_name T) hr (by omega) passE0 rfl (pa_cons (pe_ix ix_seq (pv 0) pe_int (fun _ _ => rfl)) pa_nil)))))))) (pss_one (ps_ret pe_bl)) pss_nil)
      (pss_cons (ps_s 1 S.nd (pe_ix ix_seq (pv 0) pe_int (fun _ _ => rfl)))
      (pss_one (ps_ret (pe_and (pe_callB call_isi (by rfl) (T.free 2) bb_isinstance (pa_cons (pv 1) (pa_cons (pe_bltn (v := .ty "tuple") rfl (T.free 17) bt_tuple rfl) pa_nil))) (pe_and (pe_cmpR op_uLe (pe_callB cl_uLen (by rfl) (T.free 10) bb_len (pa_cons (pv 1) pa_nil)) (C8.pe_gc rfl (T.int 23)) (nomark _)) (pe_one (pe_callB (cr_all rfl) (by rfl) (T.free 12) bb_all (pa_cons (pe_lc (own := [("one", 2)]) rfl S.nd (pi_u (pv 1)) (blkOk_by (own := [("one", 2)]) (by kernel_rfl)) (fun _ _ _ _ _ => (pg_n 2 S.nd)) (fun _ _ _ _ _ => pts_nil) (fun _ _ _ _ _ => (pe_cd (ok_is_value T) hr (by omega) passE0 rfl (pa_cons (pv 2) pa_nil)))) pa_nil)))))))))
theorem sc_check_word : FnScope ["word", "index", "letter"] ["word"] (defScope st_check_word) := ⟨rfl, rfl, rfl, by decide +kernel, rfl, by decide +kernel, by decide +kernel⟩
theorem ok_check_word (T : Hd w K mg base) : Cd P w K mg base 5 "check_word" (sp_check_word K) [] := by
  obtain ⟨fd, F⟩ := T.def_ 12 (d := d_check_word)
  have S := sc_check_word
  refine ⟨_, fd, ["word"], [], F.ok S (fun vs H Q E h => (w_check_word K E).len h) (fun cdv A outer s H vs Q E hr h => ⟨t_check_word K E, ?_, (w_check_word K E).body h⟩), T.glo 26, F.kp, F.bindsN fun _ _ _ _ _ _ us hl => match us, hl with | [_], _ => rfl, .nil⟩
  exact (pss_cons (ps_if (pt_not (pt_val (pe_callB call_isiT (by rfl) (T.free 2) bb_isinstance (pa_cons (pv 0) (pa_cons (pe_tup (pa_cons (pe_bltn (v := .ty "list") rfl (T.free 25) bt_list rfl) (pa_cons (pe_bltn (v := .ty "tuple") rfl (T.free 17) bt_tuple rfl) pa_nil))) pa_nil))))) (pss_one (ps_raise rfl (takes_of rfl rfl rfl rfl) (pmk_x (ox_BadWord T) hr (by omega) rfl (pa_cons pe_non pa_nil)))) pss_nil)
      (pss_one (ps_for (passes_of rfl) rfl (pi_enumU (by rfl) (T.free 19) (pa_cons (pv 0) pa_nil)) (pg_tup rfl (pgs_cons (pg_n 1 S.nd) (pgs_cons (pg_n 2 S.nd) pgs_nil))) (pss_one (ps_if (pt_not (pt_val (pe_cd (ok_is_letter T) hr (by omega) passE0 rfl (pa_cons (pv 2) pa_nil)))) (pss_one (ps_raise rfl (takes_of rfl rfl rfl rfl) (pmk_x (ox_BadWord T) hr (by omega) rfl (pa_cons (pv 1) pa_nil)))) pss_nil)))))
theorem sc_check_words : FnScope ["one", "other", "ties"] ["one", "other", "ties"] (defScope st_check_words) := ⟨rfl, rfl, rfl, by decide +kernel, rfl, by decide +kernel, by decide +kernel⟩
theorem ok_check_words (T : Hd w K mg base) : Cd P w K mg base 6 "check_words" (sp_check_words K) [] := by
  obtain ⟨fd, F⟩ := T.def_ 13 (d := d_check_words)
  have S := sc_check_words
  refine ⟨_, fd, ["one", "other", "ties"], [], F.ok S (fun vs H Q E h => (w_check_words K E).len h) (fun cdv A outer s H vs Q E hr h => ⟨t_check_words K E, ?_, (w_check_words K E).body h⟩), T.glo 27, F.kp, F.bindsN fun _ _ _ _ _ _ us hl => match us, hl with | [_, _, _], _ => rfl, .nil⟩
  exact (pss_cons (ps_expr (pe_cd (ok_check_word T) hr (by omega) passE0 rfl (pa_cons (pv 0) pa_nil)))
      (pss_cons (ps_expr (pe_cd (ok_check_word T) hr (by omega) passE0 rfl (pa_cons (pv 1) pa_nil)))
      (pss_one (ps_expr (pe_cd (ok_check_ties T) hr (by omega) passE0 rfl (pa_cons (pv 2) pa_nil))))))
theorem sc_exchange : FnScope ["row", "index"] ["row", "index"] (defScope st_exchange) := ⟨rfl, rfl, rfl, by decide +kernel, rfl, by decide +kernel, by decide +kernel⟩
theorem ok_exchange (T : Hd w K mg base) : Cd P w K mg base 1 "exchange" (sp_exchange K) [] := by
  obtain ⟨fd, F⟩ := T.def_ 14 (d := d_exchange)
  have S := sc_exchange
  refine ⟨_, fd, ["row", "index"], [], F.ok S (fun vs H Q E h => (w_exchange K E).len h) (fun cdv A outer s H vs Q E hr h => ⟨t_exchange K E, ?_, (w_exchange K E).body h⟩), T.glo 28, F.kp, F.bindsN fun _ _ _ _ _ _ us hl => match us, hl with | [_, _], _ => rfl, .nil⟩
  exact (pss_one (ps_asg (pe_tup (pa_cons (pe_ix ix_seq (pv 0) (pe_op op_uAdd (pv 1) pe_int) (fun _ _ => rfl)) (pa_cons (pe_ix ix_seq (pv 0) (pv 1) (fun _ _ => rfl)) pa_nil))) (pg_tup rfl (pgs_cons (pg_sub (pv 0) (pv 1) set_list) (pgs_cons (pg_sub (pv 0) (pe_op op_uAdd (pv 1) pe_int) set_list) pgs_nil)))))
theorem sc_word_behind : FnScope ["word", "ties", "indexes", "found", "index"] ["word", "ties", "indexes"] (defScope st_word_behind) := ⟨rfl, rfl, rfl, by decide +kernel, rfl, by decide +kernel, by decide +kernel⟩
theorem ok_word_behind (T : Hd w K mg base) : Cd P w K mg base 3 "word_behind" (sp_word_behind K) [] := by
  obtain ⟨fd, F⟩ := T.def_ 15 (d := d_word_behind)
  have S := sc_word_behind
  refine ⟨_, fd, ["word", "ties", "indexes"], [], F.ok S (fun vs H Q E h => (w_word_behind K E).len h) (fun cdv A outer s H vs Q E hr h => ⟨t_word_behind K E, ?_, (w_word_behind K E).body h⟩), T.glo 29, F.kp, F.bindsN fun _ _ _ _ _ _ us hl => match us, hl with | [_, _, _], _ => rfl, .nil⟩
  exact (pss_cons (ps_s 3 S.nd (pe_callTy cl_uList (by rfl) (T.free 25) bt_list (pa_cons (pv 0) pa_nil)))
      (pss_cons (ps_for (passes_of rfl) rfl (pi_u (pv 2)) (pg_n 4 S.nd) (pss_cons (ps_if (PW.pt (pw_or (pt_not (pt_val (pe_cd (ok_is_between T) hr (by omega) passE0 rfl (pa_cons (pv 4) (pa_cons pe_int (pa_cons (pe_op op_uSub (pe_callB cl_uLen (by rfl) (T.free 10) bb_len (pa_cons (pv 3) pa_nil)) pe_int) pa_nil)))))) (pw_or1 (pt_val (pe_cd (ok_is_bound T) hr (by omega) passE0 rfl (pa_cons (pv 1) (pa_cons (pe_ix ix_seq (pe_ix ix_seq (pv 3) (pv 4) (fun _ _ => rfl)) pe_int (fun _ _ => rfl)) (pa_cons (pe_ix ix_seq (pe_ix ix_seq (pv 3) (pe_op op_uAdd (pv 4) pe_int) (fun _ _ => rfl)) pe_int (fun _ _ => rfl)) pa_nil)))))))) (pss_one (ps_ret pe_non)) pss_nil)
      (pss_one (ps_expr (pe_cd (ok_exchange T) hr (by omega) passE0 rfl (pa_cons (pv 3) (pa_cons (pv 4) pa_nil)))))))
      (pss_one (ps_ret (pv 3)))))
theorem sc_swapped : FnScope ["word", "ties", "indexes", "found"] ["word", "ties", "indexes"] (defScope st_swapped) := ⟨rfl, rfl, rfl, by decide +kernel, rfl, by decide +kernel, by decide +kernel⟩
theorem ok_swapped (T : Hd w K mg base) : Cd P w K mg base 6 "swapped" (sp_swapped K) [] := by
  obtain ⟨fd, F⟩ := T.def_ 16 (d := d_swapped)
  have S := sc_swapped
  refine ⟨_, fd, ["word", "ties", "indexes"], [], F.ok S (fun vs H Q E h => (w_swapped K E).len h) (fun cdv A outer s H vs Q E hr h => ⟨t_swapped K E, ?_, (w_swapped K E).body h⟩), T.glo 30, F.kp, F.bindsN fun _ _ _ _ _ _ us hl => match us, hl with | [_, _, _], _ => rfl, .nil⟩
  exact (pss_cons (ps_expr (pe_cd (ok_check_word T) hr (by omega) passE0 rfl (pa_cons (pv 0) pa_nil)))
      (pss_cons (ps_expr (pe_cd (ok_check_ties T) hr (by omega) passE0 rfl (pa_cons (pv 1) pa_nil)))
      (pss_cons (ps_s 3 S.nd (pe_ifExp (pt_val (pe_callB call_isiT (by rfl) (T.free 2) bb_isinstance (pa_cons (pv 2) (pa_cons (pe_tup (pa_cons (pe_bltn (v := .ty "list") rfl (T.free 25) bt_list rfl) (pa_cons (pe_bltn (v := .ty "tuple") rfl (T.free 17) bt_tuple rfl) pa_nil))) pa_nil)))) (pe_cd (ok_word_behind T) hr (by omega) passE0 rfl (pa_cons (pv 0) (pa_cons (pv 1) (pa_cons (pv 2) pa_nil)))) pe_non))
      (pss_cons (ps_if (pt_cmpR op_uIsN (pv 3) pe_non (nomark _)) (pss_one (ps_raise rfl (takes_of rfl rfl rfl rfl) (pmk_x (ox_BadPart T) hr (by omega) rfl (pa_cons pe_str pa_nil)))) pss_nil)
      (pss_one (ps_ret (pv 3)))))))
theorem sc_are_swaps : FnScope ["one", "other", "ties", "value"] ["one", "other", "ties", "value"] (defScope st_are_swaps) := ⟨rfl, rfl, rfl, by decide +kernel, rfl, by decide +kernel, by decide +kernel⟩
theorem ok_are_swaps (T : Hd w K mg base) : Cd P w K mg base 7 "are_swaps" (sp_are_swaps K) [] := by
  obtain ⟨fd, F⟩ := T.def_ 17 (d := d_are_swaps)
  have S := sc_are_swaps
  refine ⟨_, fd, ["one", "other", "ties", "value"], [], F.ok S (fun vs H Q E h => (w_are_swaps K E).len h) (fun cdv A outer s H vs Q E hr h => ⟨t_are_swaps K E, ?_, (w_are_swaps K E).body h⟩), T.glo 31, F.kp, F.bindsN fun _ _ _ _ _ _ us hl => match us, hl with | [_, _, _, _], _ => rfl, .nil⟩
  exact (pss_cons (ps_expr (pe_cd (ok_check_words T) hr (by omega) passE0 rfl (pa_cons (pv 0) (pa_cons (pv 1) (pa_cons (pv 2) pa_nil)))))
      (pss_one (ps_ret (pe_and (pe_callB call_isi (by rfl) (T.free 2) bb_isinstance (pa_cons (pv 3) (pa_cons (pe_bltn (v := .ty "list") rfl (T.free 25) bt_list rfl) pa_nil))) (pe_one (pe_cmpR (op_uEq hr.units) (pe_cd (ok_word_behind T) hr (by omega) passE0 rfl (pa_cons (pv 0) (pa_cons (pv 2) (pa_cons (pv 3) pa_nil)))) (pe_callTy cl_uList (by rfl) (T.free 25) bt_list (pa_cons (pv 1) pa_nil)) (nomark _)))))))
theorem sc_law_lw_is_bound : FnScope ["ties_now", "one", "other"] ["ties_now", "one", "other"] (defScope st_law_lw_is_bound) := ⟨rfl, rfl, rfl, by decide +kernel, rfl, by decide +kernel, by decide +kernel⟩
theorem ok_law_lw_is_bound (T : Hd w K mg base) : Cd P w K mg base 1 "_law_lw_is_bound" (sp_law_lw_is_bound K) [] := by
  obtain ⟨fd, F⟩ := T.def_ 18 (d := d_law_lw_is_bound)
  have S := sc_law_lw_is_bound
  refine ⟨_, fd, ["ties_now", "one", "other"], [], F.ok S (fun vs H Q E h => (w_law_lw_is_bound K E).len h) (fun cdv A outer s H vs Q E hr h => ⟨t_law_lw_is_bound K E, ?_, (w_law_lw_is_bound K E).body h⟩), T.glo 32, F.kp, F.bindsN fun _ _ _ _ _ _ us hl => match us, hl with | [_, _, _], _ => rfl, .nil⟩
  exact (pss_one (ps_ret (pe_or (pe_cmpR (op_uEq hr.units) (pv 1) (pv 2) (nomark _)) (pe_or (pe_cmpR (op_vIn (units65 hr)) (pe_tup (pa_cons (pv 1) (pa_cons (pv 2) pa_nil))) (pv 0) (by rfl)) (pe_one (pe_cmpR (op_vIn (units65 hr)) (pe_tup (pa_cons (pv 2) (pa_cons (pv 1) pa_nil))) (pv 0) (by rfl)))))))
theorem sc_law_lw_pairs : FnScope ["rising", "made", "i", "j"] ["rising"] (defScope st_law_lw_pairs) := ⟨rfl, rfl, rfl, by decide +kernel, rfl, by decide +kernel, by decide +kernel⟩
theorem ok_law_lw_pairs (T : Hd w K mg base) : Cd P w K mg base 1 "_law_lw_pairs" (sp_law_lw_pairs K) [] := by
  obtain ⟨fd, F⟩ := T.def_ 19 (d := d_law_lw_pairs)
  have S := sc_law_lw_pairs
  refine ⟨_, fd, ["rising"], [], F.ok S (fun vs H Q E h => (w_law_lw_pairs K E).len h) (fun cdv A outer s H vs Q E hr h => ⟨t_law_lw_pairs K E, ?_, (w_law_lw_pairs K E).body h⟩), T.glo 34, F.kp, F.bindsN fun _ _ _ _ _ _ us hl => match us, hl with | [_], _ => rfl, .nil⟩
  exact (pss_cons (ps_s 1 S.nd (pe_lst pa_nil))
      (pss_cons (ps_for (passes_of rfl) rfl (pi_range1 (by rfl) (T.free 33) (pa_cons (pe_callB cl_uLen (by rfl) (T.free 10) bb_len (pa_cons (pv 0) pa_nil)) pa_nil)) (pg_n 2 S.nd) (pss_one (ps_expr (pe_bm PySem.F.plainAttrs_list PySem.F.slot_list_extend PySem.F.type_list_extend mt_extend (pv 1) (pa_cons (pe_lc (own := [("j", 3)]) rfl S.nd (pi_range2 (by rfl) (T.free 33) (pa_cons (pe_op op_uAdd (pv 2) pe_int) (pa_cons (pe_callB cl_uLen (by rfl) (T.free 10) bb_len (pa_cons (pv 0) pa_nil)) pa_nil))) (blkOk_by (own := [("j", 3)]) (by kernel_rfl)) (fun _ _ _ _ _ => (pg_n 3 S.nd)) (fun _ _ _ _ _ => pts_nil) (fun _ _ _ _ _ => (pe_tup (pa_cons (pe_ix ix_seq (pv 0) (pv 2) (fun _ _ => rfl)) (pa_cons (pe_ix ix_seq (pv 0) (pv 3) (fun _ _ => rfl)) pa_nil))))) pa_nil)))))
      (pss_one (ps_ret (pv 1)))))
theorem sc_law_lw_swapped : FnScope ["letters", "ties_now", "places_now", "made", "at"] ["letters", "ties_now", "places_now"] (defScope st_law_lw_swapped) := ⟨rfl, rfl, rfl, by decide +kernel, rfl, by decide +kernel, by decide +kernel⟩
theorem ok_law_lw_swapped (T : Hd w K mg base) : Cd P w K mg base 2 "_law_lw_swapped" (sp_law_lw_swapped K) [] := by
  obtain ⟨fd, F⟩ := T.def_ 20 (d := d_law_lw_swapped)
  have S := sc_law_lw_swapped
  refine ⟨_, fd, ["letters", "ties_now", "places_now"], [], F.ok S (fun vs H Q E h => (w_law_lw_swapped K E).len h) (fun cdv A outer s H vs Q E hr h => ⟨t_law_lw_swapped K E, ?_, (w_law_lw_swapped K E).body h⟩), T.glo 35, F.kp, F.bindsN fun _ _ _ _ _ _ us hl => match us, hl with | [_, _, _], _ => rfl, .nil⟩
  exact (pss_cons (ps_s 3 S.nd (pe_callTy cl_uList (by rfl) (T.free 25) bt_list (pa_cons (pv 0) pa_nil)))
      (pss_cons (ps_for (passes_of rfl) rfl (pi_u (pv 2)) (pg_n 4 S.nd) (pss_cons (ps_if (PW.pt (pw_or (pt_not (pt_val (pe_callB call_isi (by rfl) (T.free 2) bb_isinstance (pa_cons (pv 4) (pa_cons (pe_bltn (v := .ty "int") rfl (T.free 3) bt_int rfl) pa_nil))))) (pw_or (pt_val (pe_callB call_isi (by rfl) (T.free 2) bb_isinstance (pa_cons (pv 4) (pa_cons (pe_bltn (v := .ty "bool") rfl (T.free 4) bt_bool rfl) pa_nil)))) (pw_or1 (pt_not (pt_chain op_uLe (op_vLt (units0 hr)) pe_int (pv 4) (pe_op op_uSub (pe_callB cl_uLen (by rfl) (T.free 10) bb_len (pa_cons (pv 3) pa_nil)) pe_int))))))) (pss_one (ps_ret pe_non)) pss_nil)
      (pss_cons (ps_if (pt_val (pe_cd (ok_law_lw_is_bound T) hr (by omega) passE0 rfl (pa_cons (pv 1) (pa_cons (pe_ix ix_seq (pe_ix ix_seq (pv 3) (pv 4) (fun _ _ => rfl)) pe_int (fun _ _ => rfl)) (pa_cons (pe_ix ix_seq (pe_ix ix_seq (pv 3) (pe_op op_uAdd (pv 4) pe_int) (fun _ _ => rfl)) pe_int (fun _ _ => rfl)) pa_nil))))) (pss_one (ps_ret pe_non)) pss_nil)
      (pss_one (ps_asg (pe_tup (pa_cons (pe_ix ix_seq (pv 3) (pe_op op_uAdd (pv 4) pe_int) (fun _ _ => rfl)) (pa_cons (pe_ix ix_seq (pv 3) (pv 4) (fun _ _ => rfl)) pa_nil))) (pg_tup rfl (pgs_cons (pg_sub (pv 3) (pv 4) set_list) (pgs_cons (pg_sub (pv 3) (pe_op op_uAdd (pv 4) pe_int) set_list) pgs_nil))))))))
      (pss_one (ps_ret (pv 3)))))
theorem sc_law_take : FnScope ["jar", "many", "found"] ["jar", "many"] (defScope st_law_take) := ⟨rfl, rfl, rfl, by decide +kernel, rfl, by decide +kernel, by decide +kernel⟩
theorem ok_law_take (T : Hd w K mg base) : Cd P w K mg base 1 "_law_take" (sp_law_take K) [] := by
  obtain ⟨fd, F⟩ := T.def_ 21 (d := d_law_take)
  have S := sc_law_take
  refine ⟨_, fd, ["jar", "many"], [], F.ok S (fun vs H Q E h => (w_law_take K).len h) (fun cdv A outer s H vs Q E hr h => ⟨t_law_take K eN, ?_, (w_law_take K).body h⟩), T.glo 36, F.kp, F.bindsN fun _ _ _ _ _ _ us hl => match us, hl with | [_, _], _ => rfl, .nil⟩
  exact (pss_cons (ps_if (pt_cmpR op_uGt (pe_ix ix_seq (pv 0) pe_int (fun _ _ => rfl)) pe_int (nomark _)) (pss_cons (ps_s 2 S.nd (pe_op op_uMod (pe_callTy cl_uInt (by rfl) (T.free 3) bt_int (pa_cons (pe_ix ix_seq (pv 0) pe_int (fun _ _ => rfl)) pa_nil)) (pv 1)))
      (pss_cons (ps_asg (pe_op op_uFdiv (pe_ix ix_seq (pv 0) pe_int (fun _ _ => rfl)) (pv 1)) (pg_sub (pv 0) pe_int set_list))
      (pss_one (ps_ret (pv 2))))) pss_nil)
      (pss_cons (ps_asg (pe_op op_uAdd (pe_ix ix_seq (pv 0) pe_int (fun _ _ => rfl)) pe_int) (pg_sub (pv 0) pe_int set_list))
      (pss_cons (ps_asg (pe_op op_uMod (pe_callTy cl_uInt (by rfl) (T.free 3) bt_int (pa_cons (pe_op op_uAdd (pe_op op_uAdd (pe_op op_uMul (pe_ix ix_seq (pv 0) pe_int (fun _ _ => rfl)) pe_int) (pe_op op_uMul pe_int (pe_ix ix_seq (pv 0) pe_int (fun _ _ => rfl)))) pe_int) pa_nil)) pe_int) (pg_sub (pv 0) pe_int set_list))
      (pss_one (ps_ret (pe_op op_uMod (pe_callTy cl_uInt (by rfl) (T.free 3) bt_int (pa_cons (pe_op op_uFdiv (pe_op op_uMod (pe_callTy cl_uInt (by rfl) (T.free 3) bt_int (pa_cons (pe_op op_uMul (pe_ix ix_seq (pv 0) pe_int (fun _ _ => rfl)) (pe_ix ix_seq (pv 0) pe_int (fun _ _ => rfl))) pa_nil)) pe_int) pe_int) pa_nil)) (pv 1)))))))
theorem sc_law_mixed : FnScope ["jar", "things", "spare", "found", "go"] ["jar", "things"] (defScope st_law_mixed) := ⟨rfl, rfl, rfl, by decide +kernel, rfl, by decide +kernel, by decide +kernel⟩
theorem ok_law_mixed (T : Hd w K mg base) : Cd P w K mg base 2 "_law_mixed" (sp_law_mixed K) [] := by
  obtain ⟨fd, F⟩ := T.def_ 22 (d := d_law_mixed)
  have S := sc_law_mixed
  refine ⟨_, fd, ["jar", "things"], [], F.ok S (fun vs H Q E h => (w_law_mixed K).len h) (fun cdv A outer s H vs Q E hr h => ⟨t_law_mixed K eN, ?_, (w_law_mixed K).body h⟩), T.glo 37, F.kp, F.bindsN fun _ _ _ _ _ _ us hl => match us, hl with | [_, _], _ => rfl, .nil⟩
  exact (pss_cons (ps_par (i := 2) (j := 3) rfl S.nd rfl rfl (by decide) rfl rfl (pa_cons (pe_callTy cl_uList (by rfl) (T.free 25) bt_list (pa_cons (pv 1) pa_nil)) (pa_cons (pe_lst pa_nil) pa_nil)) (by rfl))
      (pss_cons (ps_for (passes_of rfl) rfl (pi_range1 (by rfl) (T.free 33) (pa_cons (pe_callB cl_uLen (by rfl) (T.free 10) bb_len (pa_cons (pv 1) pa_nil)) pa_nil)) (pg_n 4 S.nd) (pss_one (ps_expr (pe_bm PySem.F.plainAttrs_list PySem.F.slot_list_append PySem.F.type_list_append mt_append (pv 3) (pa_cons (pe_bm PySem.F.plainAttrs_list PySem.F.slot_list_pop PySem.F.type_list_pop mt_popAt (pv 2) (pa_cons (pe_cd (ok_law_take T) hr (by omega) passE0 rfl (pa_cons (pv 0) (pa_cons (pe_callB cl_uLen (by rfl) (T.free 10) bb_len (pa_cons (pv 2) pa_nil)) pa_nil))) pa_nil)) pa_nil)))))
      (pss_one (ps_ret (pv 3)))))
theorem sc_law_lw_words_names : FnScope ["jar", "many", "some"] ["jar", "many"] (defScope st_law_lw_words_names) := ⟨rfl, rfl, rfl, by decide +kernel, rfl, by decide +kernel, by decide +kernel⟩
theorem ok_law_lw_words_names (T : Hd w K mg base) : Cd P w K mg base 3 "_law_lw_words_names" (sp_law_lw_words_names K) [] := by
  obtain ⟨fd, F⟩ := T.def_ 23 (d := d_law_lw_words_names)
  have S := sc_law_lw_words_names
  refine ⟨_, fd, ["jar", "many"], [], F.ok S (fun vs H Q E h => (w_law_lw_words_names K).len h) (fun cdv A outer s H vs Q E hr h => ⟨t_law_lw_words_names K eN, ?_, (w_law_lw_words_names K).body h⟩), T.glo 38, F.kp, F.bindsN fun _ _ _ _ _ _ us hl => match us, hl with | [_, _], _ => rfl, .nil⟩
  exact (pss_cons (ps_s 2 S.nd (pe_lst (pa_cons pe_str (pa_cons pe_str (pa_cons pe_str (pa_cons pe_str (pa_cons pe_str (pa_cons pe_str (pa_cons pe_str (pa_cons pe_str (pa_cons pe_str (pa_cons pe_str (pa_cons pe_str (pa_cons pe_str (pa_cons pe_str (pa_cons pe_str (pa_cons pe_str (pa_cons pe_str (pa_cons pe_str pa_nil)))))))))))))))))))
      (pss_one (ps_ret (pe_slice sl_u (pe_cd (ok_law_mixed T) hr (by omega) passE0 rfl (pa_cons (pv 0) (pa_cons (pe_op op_uAdd (pv 2) (pe_lst (pa_cons pe_str (pa_cons pe_str (pa_cons pe_str (pa_cons pe_str (pa_cons pe_str (pa_cons pe_str (pa_cons pe_str pa_nil))))))))) pa_nil))) po_none (po_some (pv 1))))))
theorem sc_law_lw_ties : FnScope ["jar", "names_now", "rising", "name", "every", "line", "sort", "made", "i", "other", "half", "one", "pair"] ["jar", "names_now"] (defScope st_law_lw_ties) := ⟨rfl, rfl, rfl, by decide +kernel, rfl, by decide +kernel, by decide +kernel⟩
theorem ok_law_lw_ties (T : Hd w K mg base) : Cd P w K mg base 3 "_law_lw_ties" (sp_law_lw_ties K) [] := by
  obtain ⟨fd, F⟩ := T.def_ 24 (d := d_law_lw_ties)
  have S := sc_law_lw_ties
  refine ⟨_, fd, ["jar", "names_now"], [], F.ok S (fun vs H Q E h => (w_law_lw_ties K).len h) (fun cdv A outer s H vs Q E hr h => ⟨t_law_lw_ties K eN, ?_, (w_law_lw_ties K).body h⟩), T.glo 40, F.kp, F.bindsN fun _ _ _ _ _ _ us hl => match us, hl with | [_, _], _ => rfl, .nil⟩
  exact (pss_cons (ps_s 2 S.nd (pe_callB cr_sortedS (by rfl) (T.free 39) bb_sorted (pa_cons (pe_lc (own := [("name", 3)]) rfl S.nd (pi_u (pv 1)) (blkOk_by (own := [("name", 3)]) (by kernel_rfl)) (fun _ _ _ _ _ => (pg_n 3 S.nd)) (fun _ _ _ _ _ => pts_nil) (fun _ _ _ _ _ => (pe_callTy cl_uStr (by rfl) (T.free 9) bt_str (pa_cons (pv 3) pa_nil)))) pa_nil)))
      (pss_cons (ps_s 4 S.nd (pe_cd (ok_law_lw_pairs T) hr (by omega) passE0 rfl (pa_cons (pv 2) pa_nil)))
      (pss_cons (ps_asg (pe_tup (pa_cons (pe_cd (ok_law_mixed T) hr (by omega) passE0 rfl (pa_cons (pv 0) (pa_cons (pv 2) pa_nil))) (pa_cons (pe_cd (ok_law_take T) hr (by omega) passE0 rfl (pa_cons (pv 0) (pa_cons pe_int pa_nil))) pa_nil))) (pg_tup rfl (pgs_cons (pg_n 5 S.nd) (pgs_cons (pg_n 6 S.nd) pgs_nil))))
      (pss_cons (ps_if (pt_cmpR (op_uEq hr.units) (pv 6) pe_int (nomark _)) (pss_one (ps_ret (pe_tup pa_nil))) pss_nil)
      (pss_cons (ps_if (pt_cmpR (op_uEq hr.units) (pv 6) pe_int (nomark _)) (pss_one (ps_ret (pe_callTy cl_uTuple (by rfl) (T.free 17) bt_tuple (pa_cons (pv 4) pa_nil)))) pss_nil)
      (pss_cons (ps_if (pt_cmpR (op_uEq hr.units) (pv 6) pe_int (nomark _)) (pss_one (ps_s 7 S.nd (pe_lc (own := [("i", 8)]) rfl S.nd (pi_range1 (by rfl) (T.free 33) (pa_cons (pe_op op_uSub (pe_callB cl_uLen (by rfl) (T.free 10) bb_len (pa_cons (pv 5) pa_nil)) pe_int) pa_nil)) (blkOk_by (own := [("i", 8)]) (by kernel_rfl)) (fun _ _ _ _ _ => (pg_n 8 S.nd)) (fun _ _ _ _ _ => pts_nil) (fun _ _ _ _ _ => (pe_tup (pa_cons (pe_ix ix_seq (pv 5) (pv 8) (fun _ _ => rfl)) (pa_cons (pe_ix ix_seq (pv 5) (pe_op op_uAdd (pv 8) pe_int) (fun _ _ => rfl)) pa_nil))))))) (pss_one (ps_if (pt_cmpR (op_uEq hr.units) (pv 6) pe_int (nomark _)) (pss_one (ps_s 7 S.nd (pe_ifExp (pt_cmpR op_uGt (pe_callB cl_uLen (by rfl) (T.free 10) bb_len (pa_cons (pv 5) pa_nil)) pe_int (nomark _)) (pe_lc (own := [("i", 8)]) rfl S.nd (pi_range1 (by rfl) (T.free 33) (pa_cons (pe_callB cl_uLen (by rfl) (T.free 10) bb_len (pa_cons (pv 5) pa_nil)) pa_nil)) (blkOk_by (own := [("i", 8)]) (by kernel_rfl)) (fun _ _ _ _ _ => (pg_n 8 S.nd)) (fun _ _ _ _ _ => pts_nil) (fun _ _ _ _ _ => (pe_tup (pa_cons (pe_ix ix_seq (pv 5) (pe_op op_uSub (pv 8) pe_int) (fun _ _ => rfl)) (pa_cons (pe_ix ix_seq (pv 5) (pv 8) (fun _ _ => rfl)) pa_nil))))) (pv 4)))) (pss_one (ps_if (pt_cmpR (op_uEq hr.units) (pv 6) pe_int (nomark _)) (pss_one (ps_s 7 S.nd (pe_lc (own := [("other", 9)]) rfl S.nd (pi_u (pe_slice sl_u (pv 5) (po_some pe_int) po_none)) (blkOk_by (own := [("other", 9)]) (by kernel_rfl)) (fun _ _ _ _ _ => (pg_n 9 S.nd)) (fun _ _ _ _ _ => pts_nil) (fun _ _ _ _ _ => (pe_tup (pa_cons (pe_ix ix_seq (pv 5) pe_int (fun _ _ => rfl)) (pa_cons (pv 9) pa_nil))))))) (pss_one (ps_if (pt_cmpR (op_uEq hr.units) (pv 6) pe_int (nomark _)) (pss_cons (ps_s 10 S.nd (pe_slice sl_u (pv 5) po_none (po_some (pe_op op_uFdiv (pe_callB cl_uLen (by rfl) (T.free 10) bb_len (pa_cons (pv 5) pa_nil)) pe_int))))
      (pss_one (ps_s 7 S.nd (pe_lc (own := [("one", 11), ("other", 9)]) rfl S.nd (pi_u (pv 4)) (blkOk_by (own := [("one", 11), ("other", 9)]) (by kernel_rfl)) (fun _ _ _ _ _ => (pg_tup rfl (pgs_cons (pg_n 11 S.nd) (pgs_cons (pg_n 9 S.nd) pgs_nil)))) (fun _ _ _ _ _ => (pts_one (pt_cmpR (op_uEq hr.units) (pe_cmpR (op_vIn (units65 hr)) (pv 11) (pv 10) (by rfl)) (pe_cmpR (op_vIn (units65 hr)) (pv 9) (pv 10) (by rfl)) (nomark _)))) (fun _ _ _ _ _ => (pe_tup (pa_cons (pv 11) (pa_cons (pv 9) pa_nil)))))))) (pss_one (ps_s 7 S.nd (pe_lc (own := [("pair", 12)]) rfl S.nd (pi_u (pv 4)) (blkOk_by (own := [("pair", 12)]) (by kernel_rfl)) (fun _ _ _ _ _ => (pg_n 12 S.nd)) (fun _ _ _ _ _ => (pts_one (pt_cmpR (op_uEq hr.units) (pe_cd (ok_law_take T) hr (by omega) passE0 rfl (pa_cons (pv 0) (pa_cons (pe_ifExp (pt_cmpR (op_uEq hr.units) (pv 6) pe_int (nomark _)) pe_int pe_int) pa_nil))) pe_int (nomark _)))) (fun _ _ _ _ _ => (pv 12))))))))))))
      (pss_one (ps_ret (pe_callTy cl_uTuple (by rfl) (T.free 17) bt_tuple (pa_cons (pe_lc (own := [("pair", 12)]) rfl S.nd (pi_u (pv 4)) (blkOk_by (own := [("pair", 12)]) (by kernel_rfl)) (fun _ _ _ _ _ => (pg_n 12 S.nd)) (fun _ _ _ _ _ => (pts_one (PW.pt (pw_or (pt_cmpR (op_vIn (units65 hr)) (pv 12) (pv 7) (by rfl)) (pw_or1 (pt_cmpR (op_vIn (units65 hr)) (pe_tup (pa_cons (pe_ix ix_seq (pv 12) pe_int (fun _ _ => rfl)) (pa_cons (pe_ix ix_seq (pv 12) pe_int (fun _ _ => rfl)) pa_nil))) (pv 7) (by rfl))))))) (fun _ _ _ _ _ => (pv 12))) pa_nil))))))))))
theorem sc_law_one : FnScope ["jar", "things"] ["jar", "things"] (defScope st_law_one) := ⟨rfl, rfl, rfl, by decide +kernel, rfl, by decide +kernel, by decide +kernel⟩
theorem ok_law_one (T : Hd w K mg base) : Cd P w K mg base 2 "_law_one" (sp_law_one K) [] := by
  obtain ⟨fd, F⟩ := T.def_ 25 (d := d_law_one)
  have S := sc_law_one
  refine ⟨_, fd, ["jar", "things"], [], F.ok S (fun vs H Q E h => (w_law_one K).len h) (fun cdv A outer s H vs Q E hr h => ⟨t_law_one K eN, ?_, (w_law_one K).body h⟩), T.glo 41, F.kp, F.bindsN fun _ _ _ _ _ _ us hl => match us, hl with | [_, _], _ => rfl, .nil⟩
  exact (pss_one (ps_ret (pe_ix ix_seq (pv 1) (pe_cd (ok_law_take T) hr (by omega) passE0 rfl (pa_cons (pv 0) (pa_cons (pe_callB cl_uLen (by rfl) (T.free 10) bb_len (pa_cons (pv 1) pa_nil)) pa_nil))) (fun _ _ => rfl))))
theorem sc_law_lw_letter : FnScope ["jar", "names_now", "values"] ["jar", "names_now"] (defScope st_law_lw_letter) := ⟨rfl, rfl, rfl, by decide +kernel, rfl, by decide +kernel, by decide +kernel⟩
theorem ok_law_lw_letter (T : Hd w K mg base) : Cd P w K mg base 3 "_law_lw_letter" (sp_law_lw_letter K) [] := by
  obtain ⟨fd, F⟩ := T.def_ 26 (d := d_law_lw_letter)
  have S := sc_law_lw_letter
  refine ⟨_, fd, ["jar", "names_now"], [], F.ok S (fun vs H Q E h => (w_law_lw_letter K).len h) (fun cdv A outer s H vs Q E hr h => ⟨t_law_lw_letter K eN, ?_, (w_law_lw_letter K).body h⟩), T.glo 42, F.kp, F.bindsN fun _ _ _ _ _ _ us hl => match us, hl with | [_, _], _ => rfl, .nil⟩
  exact (pss_cons (ps_s 2 S.nd (pe_cd (ok_law_one T) hr (by omega) passE0 rfl (pa_cons (pv 0) (pa_cons (pe_lst (pa_cons (pe_tup pa_nil) (pa_cons (pe_tup pa_nil) (pa_cons (pe_tup (pa_cons pe_int pa_nil)) (pa_cons (pe_tup (pa_cons pe_int pa_nil)) (pa_cons (pe_tup (pa_cons (pe_cd (ok_law_take T) hr (by omega) passE0 rfl (pa_cons (pv 0) (pa_cons pe_int pa_nil))) pa_nil)) (pa_cons (pe_tup (pa_cons (pe_cd (ok_law_take T) hr (by omega) passE0 rfl (pa_cons (pv 0) (pa_cons pe_int pa_nil))) (pa_cons (pe_cd (ok_law_take T) hr (by omega) passE0 rfl (pa_cons (pv 0) (pa_cons pe_int pa_nil))) pa_nil))) pa_nil))))))) pa_nil))))
      (pss_one (ps_ret (pe_tup (pa_cons (pe_cd (ok_law_one T) hr (by omega) passE0 rfl (pa_cons (pv 0) (pa_cons (pv 1) pa_nil))) (pa_cons (pv 2) pa_nil))))))
theorem sc_law_lw_word : FnScope ["jar", "names_now", "many", "go"] ["jar", "names_now", "many"] (defScope st_law_lw_word) := ⟨rfl, rfl, rfl, by decide +kernel, rfl, by decide +kernel, by decide +kernel⟩
theorem ok_law_lw_word (T : Hd w K mg base) : Cd P w K mg base 4 "_law_lw_word" (sp_law_lw_word K) [] := by
  obtain ⟨fd, F⟩ := T.def_ 27 (d := d_law_lw_word)
  have S := sc_law_lw_word
  refine ⟨_, fd, ["jar", "names_now", "many"], [], F.ok S (fun vs H Q E h => (w_law_lw_word K).len h) (fun cdv A outer s H vs Q E hr h => ⟨t_law_lw_word K eN, ?_, (w_law_lw_word K).body h⟩), T.glo 43, F.kp, F.bindsN fun _ _ _ _ _ _ us hl => match us, hl with | [_, _, _], _ => rfl, .nil⟩
  exact (pss_one (ps_ret (pe_lc (own := [("go", 3)]) rfl S.nd (pi_range1 (by rfl) (T.free 33) (pa_cons (pv 2) pa_nil)) (blkOk_by (own := [("go", 3)]) (by kernel_rfl)) (fun _ _ _ _ _ => (pg_n 3 S.nd)) (fun _ _ _ _ _ => pts_nil) (fun _ _ _ _ _ => (pe_cd (ok_law_lw_letter T) hr (by omega) passE0 rfl (pa_cons (pv 0) (pa_cons (pv 1) pa_nil)))))))
theorem sc_law_lw_handed : FnScope ["jar", "letters"] ["jar", "letters"] (defScope st_law_lw_handed) := ⟨rfl, rfl, rfl, by decide +kernel, rfl, by decide +kernel, by decide +kernel⟩
theorem ok_law_lw_handed (T : Hd w K mg base) : Cd P w K mg base 3 "_law_lw_handed" (sp_law_lw_handed K) [] := by
  obtain ⟨fd, F⟩ := T.def_ 28 (d := d_law_lw_handed)
  have S := sc_law_lw_handed
  refine ⟨_, fd, ["jar", "letters"], [], F.ok S (fun vs H Q E h => (w_law_lw_handed K).len h) (fun cdv A outer s H vs Q E hr h => ⟨t_law_lw_handed K eN, ?_, (w_law_lw_handed K).body h⟩), T.glo 44, F.kp, F.bindsN fun _ _ _ _ _ _ us hl => match us, hl with | [_, _], _ => rfl, .nil⟩
  exact (pss_one (ps_ret (pe_cd (ok_law_one T) hr (by omega) passE0 rfl (pa_cons (pv 0) (pa_cons (pe_lst (pa_cons (pe_callTy cl_uList (by rfl) (T.free 25) bt_list (pa_cons (pv 1) pa_nil)) (pa_cons (pe_callTy cl_uTuple (by rfl) (T.free 17) bt_tuple (pa_cons (pv 1) pa_nil)) pa_nil))) pa_nil)))))
theorem sc_law_pool : FnScope ["script", "digits", "stirred", "i", "cell"] ["script"] (defScope st_law_pool) := ⟨rfl, rfl, rfl, by decide +kernel, rfl, by decide +kernel, by decide +kernel⟩
theorem ok_law_pool (T : Hd w K mg base) : Cd P w K mg base 1 "_law_pool" (sp_law_pool K) [] := by
  obtain ⟨fd, F⟩ := T.def_ 29 (d := d_law_pool)
  have S := sc_law_pool
  refine ⟨_, fd, ["script"], [], F.ok S (fun vs H Q E h => (w_law_pool K E).len h) (fun cdv A outer s H vs Q E hr h => ⟨t_law_pool K E, ?_, (w_law_pool K E).body h⟩), T.glo 46, F.kp, F.bindsN fun _ _ _ _ _ _ us hl => match us, hl with | [_], _ => rfl, .nil⟩
  exact (pss_cons (ps_asg (pe_tup (pa_cons pe_int (pa_cons pe_int pa_nil))) (pg_tup rfl (pgs_cons (pg_n 1 S.nd) (pgs_cons (pg_n 2 S.nd) pgs_nil))))
      (pss_cons (ps_for (passes_of rfl) rfl (pi_range1 (by rfl) (T.free 33) (pa_cons (pe_callB cl_uLen (by rfl) (T.free 10) bb_len (pa_cons (pv 0) pa_nil)) pa_nil)) (pg_n 3 S.nd) (pss_cons (ps_s 4 S.nd (pe_callB (cl_uMax2 rfl) (by rfl) (T.free 45) bb_max (pa_cons (pe_callTy cl_uInt (by rfl) (T.free 3) bt_int (pa_cons (pe_ix ix_seq (pv 0) (pv 3) (fun _ _ => rfl)) pa_nil)) (pa_cons (pe_callTy cl_uInt (by rfl) (T.free 3) bt_int (pa_cons (pe_op op_uSub (pe_un un_neg pe_int) (pe_ix ix_seq (pv 0) (pv 3) (fun _ _ => rfl))) pa_nil)) pa_nil))))
      (pss_cons (ps_s 2 S.nd (pe_op op_uMod (pe_callTy cl_uInt (by rfl) (T.free 3) bt_int (pa_cons (pe_op op_uAdd (pe_op op_uAdd (pe_op op_uMul (pv 2) pe_int) (pe_op op_uMod (pv 4) pe_int)) pe_int) pa_nil)) pe_int))
      (pss_one (ps_s 1 S.nd (pe_ifExp (PW.pt (pw_and (pt_cmpR op_uGe (pv 4) (pe_op op_uPow pe_int pe_int) (nomark _)) (pw_and1 (pt_cmpR (op_vLt (units0 hr)) (pv 1) (pe_op op_uPow pe_int pe_int) (nomark _))))) (pe_callTy cl_uInt (by rfl) (T.free 3) bt_int (pa_cons (pe_op op_uAdd (pe_op op_uMul (pv 1) (pe_op op_uPow pe_int pe_int)) (pe_op op_uMod (pv 4) (pe_op op_uPow pe_int pe_int))) pa_nil)) (pv 1)))))))
      (pss_one (ps_ret (pe_lst (pa_cons (pv 1) (pa_cons (pv 2) (pa_cons pe_int pa_nil))))))))
theorem sc_law_yq_is_whole : FnScope ["thing"] ["thing"] (defScope st_law_yq_is_whole) := ⟨rfl, rfl, rfl, by decide +kernel, rfl, by decide +kernel, by decide +kernel⟩
theorem ok_law_yq_is_whole (T : Hd w K mg base) : Cd P w K mg base 1 "_law_yq_is_whole" (sp_law_yq_is_whole K) [] := by
  obtain ⟨fd, F⟩ := T.def_ 30 (d := d_law_yq_is_whole)
  have S := sc_law_yq_is_whole
  refine ⟨_, fd, ["thing"], [], F.ok S (fun vs H Q E h => (w_law_yq_is_whole K E).len h) (fun cdv A outer s H vs Q E hr h => ⟨t_law_yq_is_whole K E, ?_, (w_law_yq_is_whole K E).body h⟩), T.glo 47, F.kp, F.bindsN fun _ _ _ _ _ _ us hl => match us, hl with | [_], _ => rfl, .nil⟩
  exact (pss_one (ps_ret (pe_and (pe_callB call_isi (by rfl) (T.free 2) bb_isinstance (pa_cons (pv 0) (pa_cons (pe_bltn (v := .ty "int") rfl (T.free 3) bt_int rfl) pa_nil))) (pe_one (pe_not (pe_callB call_isi (by rfl) (T.free 2) bb_isinstance (pa_cons (pv 0) (pa_cons (pe_bltn (v := .ty "bool") rfl (T.free 4) bt_bool rfl) pa_nil))))))))
theorem sc_law_yq_same : FnScope ["heard_one", "owed", "i"] ["heard_one", "owed"] (defScope st_law_yq_same) := ⟨rfl, rfl, rfl, by decide +kernel, rfl, by decide +kernel, by decide +kernel⟩
theorem ok_law_yq_same (T : Hd w K mg base) : ∀ n, Cd P w K mg base (2 + n) "_law_yq_same" (sp_law_yq_same n K) []
  | 0 => by
    obtain ⟨fd, F⟩ := T.def_ 31 (d := d_law_yq_same)
    refine ⟨_, fd, ["heard_one", "owed"], [], F.ok (k := 1) sc_law_yq_same (fun vs H Q E h => (no_law_yq_same h).elim) (fun cdv A outer s H vs Q E hr h => (no_law_yq_same h).elim), T.glo 48, F.kp, F.bindsN fun _ _ _ _ _ _ us hl => match us, hl with | [_, _], _ => rfl, .nil⟩
  | n + 1 => by
    have IH := ok_law_yq_same T n
    obtain ⟨fd, F⟩ := T.def_ 31 (d := d_law_yq_same)
    have S := sc_law_yq_same
    refine ⟨_, fd, ["heard_one", "owed"], [], F.ok (k := 2 + n) S (fun vs H Q E h => (w_law_yq_same n K E).len h) (fun cdv A outer s H vs Q E hr h => ⟨t_law_yq_same n K E, ?_, (w_law_yq_same n K E).body h⟩), T.glo 48, F.kp, F.bindsN fun _ _ _ _ _ _ us hl => match us, hl with | [_, _], _ => rfl, .nil⟩
    exact (pss_cons (ps_if (pt_cmpR op_uIsN (pv 1) pe_non (nomark _)) (pss_one (ps_ret (pe_cmpR op_uIsN (pv 0) pe_non (nomark _)))) pss_nil)
      (pss_cons (ps_if (pt_val (pe_callB call_isi (by rfl) (T.free 2) bb_isinstance (pa_cons (pv 1) (pa_cons (pe_bltn (v := .ty "bool") rfl (T.free 4) bt_bool rfl) pa_nil)))) (pss_one (ps_ret (pe_ifExp (pt_val (pv 1)) (pe_cmpR op_isBl (pv 0) pe_bl (nomark _)) (pe_cmpR op_isBl (pv 0) pe_bl (nomark _))))) pss_nil)
      (pss_cons (ps_if (pt_val (pe_callB call_isi (by rfl) (T.free 2) bb_isinstance (pa_cons (pv 1) (pa_cons (pe_bltn (v := .ty "int") rfl (T.free 3) bt_int rfl) pa_nil)))) (pss_one (ps_ret (pe_and (pe_cd (ok_law_yq_is_whole T) hr (by omega) passE0 rfl (pa_cons (pv 0) pa_nil)) (pe_one (pe_cmpR (op_uEq hr.units) (pv 0) (pv 1) (nomark _)))))) pss_nil)
      (pss_cons (ps_if (pt_val (pe_callB call_isi (by rfl) (T.free 2) bb_isinstance (pa_cons (pv 1) (pa_cons (pe_bltn (v := .ty "str") rfl (T.free 9) bt_str rfl) pa_nil)))) (pss_one (ps_ret (pe_and (pe_callB call_isi (by rfl) (T.free 2) bb_isinstance (pa_cons (pv 0) (pa_cons (pe_bltn (v := .ty "str") rfl (T.free 9) bt_str rfl) pa_nil))) (pe_one (pe_cmpR (op_uEq hr.units) (pv 0) (pv 1) (nomark _)))))) pss_nil)
      (pss_cons (ps_if (PW.pt (pw_and (pt_not (pt_val (pe_callB call_isi (by rfl) (T.free 2) bb_isinstance (pa_cons (pv 1) (pa_cons (pe_bltn (v := .ty "tuple") rfl (T.free 17) bt_tuple rfl) pa_nil))))) (pw_and1 (pt_not (pt_val (pe_callB call_isi (by rfl) (T.free 2) bb_isinstance (pa_cons (pv 1) (pa_cons (pe_bltn (v := .ty "list") rfl (T.free 25) bt_list rfl) pa_nil)))))))) (pss_one (ps_ret (pe_callTy cl_uBool (by rfl) (T.free 4) bt_bool (pa_cons (pe_cmpR (op_uEq hr.units) (pv 0) (pv 1) (nomark _)) pa_nil)))) pss_nil)
      (pss_cons (ps_if (pt_cmpR (op_uNe hr.units) (pe_callB call_isi (by rfl) (T.free 2) bb_isinstance (pa_cons (pv 1) (pa_cons (pe_bltn (v := .ty "tuple") rfl (T.free 17) bt_tuple rfl) pa_nil))) (pe_callB call_isi (by rfl) (T.free 2) bb_isinstance (pa_cons (pv 0) (pa_cons (pe_bltn (v := .ty "tuple") rfl (T.free 17) bt_tuple rfl) pa_nil))) (nomark _)) (pss_one (ps_ret pe_bl)) pss_nil)
      (pss_cons (ps_if (pt_cmpR (op_uNe hr.units) (pe_callB call_isi (by rfl) (T.free 2) bb_isinstance (pa_cons (pv 1) (pa_cons (pe_bltn (v := .ty "list") rfl (T.free 25) bt_list rfl) pa_nil))) (pe_callB call_isi (by rfl) (T.free 2) bb_isinstance (pa_cons (pv 0) (pa_cons (pe_bltn (v := .ty "list") rfl (T.free 25) bt_list rfl) pa_nil))) (nomark _)) (pss_one (ps_ret pe_bl)) pss_nil)
      (pss_cons (ps_if (pt_cmpR (op_uNe hr.units) (pe_callB cl_uLen (by rfl) (T.free 10) bb_len (pa_cons (pv 0) pa_nil)) (pe_callB cl_uLen (by rfl) (T.free 10) bb_len (pa_cons (pv 1) pa_nil)) (nomark _)) (pss_one (ps_ret pe_bl)) pss_nil)
      (pss_cons (ps_for (passes_of rfl) rfl (pi_range1 (by rfl) (T.free 33) (pa_cons (pe_callB cl_uLen (by rfl) (T.free 10) bb_len (pa_cons (pv 1) pa_nil)) pa_nil)) (pg_n 2 S.nd) (pss_one (ps_if (pt_not (pt_val (pe_cd IH hr (by omega) passE0 rfl (pa_cons (pe_ix ix_seq (pv 0) (pv 2) (fun _ _ => rfl)) (pa_cons (pe_ix ix_seq (pv 1) (pv 2) (fun _ _ => rfl)) pa_nil))))) (pss_one (ps_ret pe_bl)) pss_nil)))
      (pss_one (ps_ret pe_bl)))))))))))
theorem sc_law_heard_swapped : FnScope ["word", "ties_now", "places_now"] ["word", "ties_now", "places_now"] (defScope st_law_heard_swapped) := ⟨rfl, rfl, rfl, by decide +kernel, rfl, by decide +kernel, by decide +kernel⟩
theorem ok_law_heard_swapped (T : Hd w K mg base) : Cd P w K mg base 9 "_law_heard_swapped" (sp_law_heard_swapped K) [] := by
  obtain ⟨fd, F⟩ := T.def_ 33 (d := d_law_heard_swapped)
  have S := sc_law_heard_swapped
  have hB : Binds K fd ["word", "ties_now", "places_now"] [] := F.bindsN fun _ _ _ _ _ _ us hl => match us, hl with | [_, _, _], _ => rfl
  have kp := F.kp
  obtain ⟨oc, od, dV, kV, doc, pm, an, cdv, ct, osl, rfl, lk, hcd, _, _⟩ := F.ex
  obtain ⟨c0, rfl⟩ := He.codeIn_ref hcd
  have hc0 : c0 = (He.cT K ("_law_heard_swapped", none)).1 := (He.codeOf_eq lk rfl).symm
  refine ⟨_, _, ["word", "ties_now", "places_now"], [], fn_of lk hcd S (fun vs H Q E h => (w_law_heard_swapped (exm_BadPart T) E).len h) (fun A outer s H vs Q E hr h => ⟨t_law_heard_swapped K E, ?_, (w_law_heard_swapped (exm_BadPart T) E).body h⟩), T.glo 49, kp, hB, .nil⟩
  exact (pss_one (ps_ret (lamc_law_ear T (nm := "_law_heard_swapped") (by decide) rfl (congrArg Value.ref hc0) hr (lamS_by (by kernel_rfl)) (fun A outer s H E f c' hr => (pe_cd (ok_swapped T) hr (by omega) (passes_call (takes_of rfl rfl rfl rfl) fun _ _ _ _ h => h) rfl (pa_cons (pv 0) (pa_cons (pv 1) (pa_cons (pv 2) pa_nil))))))))
theorem sc_law_heard_judged : FnScope ["one", "other", "ties_now", "thing"] ["one", "other", "ties_now", "thing"] (defScope st_law_heard_judged) := ⟨rfl, rfl, rfl, by decide +kernel, rfl, by decide +kernel, by decide +kernel⟩
theorem ok_law_heard_judged (T : Hd w K mg base) : Cd P w K mg base 10 "_law_heard_judged" (sp_law_heard_judged K) [] := by
  obtain ⟨fd, F⟩ := T.def_ 34 (d := d_law_heard_judged)
  have S := sc_law_heard_judged
  have hB : Binds K fd ["one", "other", "ties_now", "thing"] [] := F.bindsN fun _ _ _ _ _ _ us hl => match us, hl with | [_, _, _, _], _ => rfl
  have kp := F.kp
  obtain ⟨oc, od, dV, kV, doc, pm, an, cdv, ct, osl, rfl, lk, hcd, _, _⟩ := F.ex
  obtain ⟨c0, rfl⟩ := He.codeIn_ref hcd
  have hc0 : c0 = (He.cT K ("_law_heard_judged", none)).1 := (He.codeOf_eq lk rfl).symm
  refine ⟨_, _, ["one", "other", "ties_now", "thing"], [], fn_of lk hcd S (fun vs H Q E h => (w_law_heard_judged K E).len h) (fun A outer s H vs Q E hr h => ⟨t_law_heard_judged K E, ?_, (w_law_heard_judged K E).body h⟩), T.glo 50, kp, hB, .nil⟩
  exact (pss_one (ps_ret (lamc_law_ear T (nm := "_law_heard_judged") (by decide) rfl (congrArg Value.ref hc0) hr (lamS_by (by kernel_rfl)) (fun A outer s H E f c' hr => (pe_cd (ok_are_swaps T) hr (by omega) passE0 rfl (pa_cons (pv 0) (pa_cons (pv 1) (pa_cons (pv 2) (pa_cons (pv 3) pa_nil)))))))))
theorem sc_law_walk : FnScope ["jar", "letters", "ties_now", "many", "made", "now", "go", "some", "at"] ["jar", "letters", "ties_now", "many"] (defScope st_law_walk) := ⟨rfl, rfl, rfl, by decide +kernel, rfl, by decide +kernel, by decide +kernel⟩
theorem ok_law_walk (T : Hd w K mg base) : Cd P w K mg base 3 "_law_walk" (sp_law_walk K) [] := by
  obtain ⟨fd, F⟩ := T.def_ 35 (d := d_law_walk)
  have S := sc_law_walk
  refine ⟨_, fd, ["jar", "letters", "ties_now", "many"], [], F.ok S (fun vs H Q E h => (w_law_walk K).len h) (fun cdv A outer s H vs Q E hr h => ⟨t_law_walk K eN, ?_, (w_law_walk K).body h⟩), T.glo 51, F.kp, F.bindsN fun _ _ _ _ _ _ us hl => match us, hl with | [_, _, _, _], _ => rfl, .nil⟩
  exact (pss_cons (ps_asg (pe_tup (pa_cons (pe_lst pa_nil) (pa_cons (pe_callTy cl_uList (by rfl) (T.free 25) bt_list (pa_cons (pv 1) pa_nil)) pa_nil))) (pg_tup rfl (pgs_cons (pg_n 4 S.nd) (pgs_cons (pg_n 5 S.nd) pgs_nil))))
      (pss_cons (ps_for (passes_of rfl) rfl (pi_range1 (by rfl) (T.free 33) (pa_cons (pv 3) pa_nil)) (pg_n 6 S.nd) (pss_cons (ps_setLc (i := 7) (own := [("at", 8)]) rfl S.nd rfl rfl (sw_true rfl rfl rfl (by decide +kernel)) (pi_range1 (by rfl) (T.free 33) (pa_cons (pe_op op_uSub (pe_callB cl_uLen (by rfl) (T.free 10) bb_len (pa_cons (pv 5) pa_nil)) pe_int) pa_nil)) (blkOk_by (own := [("at", 8)]) (by kernel_rfl)) (fun _ _ _ _ _ => (pg_n 8 S.nd)) (fun _ _ _ _ _ => (pts_one (pt_not (pt_val (pe_cd (ok_law_lw_is_bound T) hr (by omega) passE0 rfl (pa_cons (pv 2) (pa_cons (pe_ix ix_seq (pe_ix ix_seq (pv 5) (pv 8) (fun _ _ => rfl)) pe_int (fun _ _ => rfl)) (pa_cons (pe_ix ix_seq (pe_ix ix_seq (pv 5) (pe_op op_uAdd (pv 8) pe_int) (fun _ _ => rfl)) pe_int (fun _ _ => rfl)) pa_nil)))))))) (fun _ _ _ _ _ => (pv 8)))
      (pss_one (ps_if (pt_cmpR (op_uNe hr.units) (pv 7) (pe_lst pa_nil) (nomark _)) (pss_cons (ps_s 8 S.nd (pe_ifExp (PW.pt (pw_and (pt_cmpR (op_uNe hr.units) (pv 4) (pe_lst pa_nil) (nomark _)) (pw_and1 (pt_cmpR (op_uEq hr.units) (pe_cd (ok_law_take T) hr (by omega) passE0 rfl (pa_cons (pv 0) (pa_cons pe_int pa_nil))) pe_int (nomark _))))) (pe_ix ix_seq (pv 4) (pe_un un_neg pe_int) (fun _ _ => rfl)) (pe_cd (ok_law_one T) hr (by omega) passE0 rfl (pa_cons (pv 0) (pa_cons (pv 7) pa_nil)))))
      (pss_cons (ps_asg (pe_tup (pa_cons (pe_ix ix_seq (pv 5) (pe_op op_uAdd (pv 8) pe_int) (fun _ _ => rfl)) (pa_cons (pe_ix ix_seq (pv 5) (pv 8) (fun _ _ => rfl)) pa_nil))) (pg_tup rfl (pgs_cons (pg_sub (pv 5) (pv 8) set_list) (pgs_cons (pg_sub (pv 5) (pe_op op_uAdd (pv 8) pe_int) set_list) pgs_nil))))
      (pss_one (ps_expr (pe_bm PySem.F.plainAttrs_list PySem.F.slot_list_append PySem.F.type_list_append mt_append (pv 4) (pa_cons (pv 8) pa_nil)))))) pss_nil))))
      (pss_one (ps_ret (pe_tup (pa_cons (pv 4) (pa_cons (pv 5) pa_nil)))))))
theorem sc_law_bent : FnScope ["jar", "places_now", "many", "at", "some", "odds", "made", "odd"] ["jar", "places_now", "many"] (defScope st_law_bent) := ⟨rfl, rfl, rfl, by decide +kernel, rfl, by decide +kernel, by decide +kernel⟩
theorem ok_law_bent (T : Hd w K mg base) : Cd P w K mg base 3 "_law_bent" (sp_law_bent K) [] := by
  obtain ⟨fd, F⟩ := T.def_ 36 (d := d_law_bent)
  have S := sc_law_bent
  refine ⟨_, fd, ["jar", "places_now", "many"], [], F.ok S (fun vs H Q E h => (w_law_bent K).len h) (fun cdv A outer s H vs Q E hr h => ⟨t_law_bent K eN, ?_, (w_law_bent K).body h⟩), T.glo 52, F.kp, F.bindsN fun _ _ _ _ _ _ us hl => match us, hl with | [_, _, _], _ => rfl, .nil⟩
  exact (pss_cons (ps_s 3 S.nd (pe_cd (ok_law_take T) hr (by omega) passE0 rfl (pa_cons (pv 0) (pa_cons (pe_op op_uAdd (pe_callB cl_uLen (by rfl) (T.free 10) bb_len (pa_cons (pv 1) pa_nil)) pe_int) pa_nil))))
      (pss_cons (ps_s 4 S.nd (pe_callTy cl_uList (by rfl) (T.free 25) bt_list (pa_cons (pv 1) pa_nil)))
      (pss_cons (ps_s 5 S.nd (pe_lst (pa_cons (pe_un un_neg pe_int) (pa_cons (pe_op op_uSub (pv 2) pe_int) (pa_cons (pv 2) (pa_cons pe_bl (pa_cons pe_bl (pa_cons pe_non (pa_cons pe_str (pa_cons (pe_tup (pa_cons pe_int pa_nil)) (pa_cons (pe_lst (pa_cons pe_int pa_nil)) (pa_cons (pe_op op_uPow pe_int pe_int) (pa_cons (pe_cd (ok_law_take T) hr (by omega) passE0 rfl (pa_cons (pv 0) (pa_cons (pe_callB (cl_uMax2 rfl) (by rfl) (T.free 45) bb_max (pa_cons pe_int (pa_cons (pv 2) pa_nil))) pa_nil))) pa_nil)))))))))))))
      (pss_cons (ps_setLc (i := 6) (own := [("odd", 7)]) rfl S.nd rfl rfl (sw_true rfl rfl rfl (by decide +kernel)) (pi_u (pv 5)) (blkOk_by (own := [("odd", 7)]) (by kernel_rfl)) (fun _ _ _ _ _ => (pg_n 7 S.nd)) (fun _ _ _ _ _ => pts_nil) (fun _ _ _ _ _ => (pe_op op_uAdd (pe_op op_uAdd (pe_slice sl_u (pv 4) po_none (po_some (pv 3))) (pe_lst (pa_cons (pv 7) pa_nil))) (pe_slice sl_u (pv 4) (po_some (pv 3)) po_none))))
      (pss_cons (ps_expr (pe_bm PySem.F.plainAttrs_list PySem.F.slot_list_extend PySem.F.type_list_extend mt_extend (pv 6) (pa_cons (pe_lc (own := [("odd", 7)]) rfl S.nd (pi_u (pv 5)) (blkOk_by (own := [("odd", 7)]) (by kernel_rfl)) (fun _ _ _ _ _ => (pg_n 7 S.nd)) (fun _ _ _ _ _ => pts_nil) (fun _ _ _ _ _ => (pe_op op_uAdd (pe_op op_uAdd (pe_slice sl_u (pv 4) po_none (po_some (pv 3))) (pe_lst (pa_cons (pv 7) pa_nil))) (pe_slice sl_u (pv 4) (po_some (pe_op op_uAdd (pv 3) pe_int)) po_none)))) pa_nil)))
      (pss_cons (ps_expr (pe_bm PySem.F.plainAttrs_list PySem.F.slot_list_extend PySem.F.type_list_extend mt_extend (pv 6) (pa_cons (pe_lst (pa_cons (pe_op op_uAdd (pe_slice sl_u (pv 4) po_none (po_some (pv 3))) (pe_slice sl_u (pv 4) (po_some (pe_op op_uAdd (pv 3) pe_int)) po_none)) (pa_cons (pe_revL (pv 4)) (pa_cons (pe_cd (ok_law_mixed T) hr (by omega) passE0 rfl (pa_cons (pv 0) (pa_cons (pv 4) pa_nil))) (pa_cons (pe_op op_uAdd (pv 4) (pv 4)) (pa_cons (pe_slice sl_u (pv 4) po_none (po_some (pv 3))) pa_nil)))))) pa_nil)))
      (pss_cons (ps_expr (pe_bm PySem.F.plainAttrs_list PySem.F.slot_list_extend PySem.F.type_list_extend mt_extend (pv 6) (pa_cons (pe_lst (pa_cons (pe_op op_uAdd (pe_op op_uAdd (pe_slice sl_u (pv 4) po_none (po_some (pv 3))) (pe_op op_uMul (pe_slice sl_u (pv 4) (po_some (pv 3)) (po_some (pe_op op_uAdd (pv 3) pe_int))) pe_int)) (pe_slice sl_u (pv 4) (po_some (pe_op op_uAdd (pv 3) pe_int)) po_none)) (pa_cons (pe_op op_uAdd (pe_op op_uAdd (pe_slice sl_u (pv 4) po_none (po_some (pv 3))) (pe_op op_uMul (pe_slice sl_u (pv 4) (po_some (pv 3)) (po_some (pe_op op_uAdd (pv 3) pe_int))) pe_int)) (pe_slice sl_u (pv 4) (po_some (pe_op op_uAdd (pv 3) pe_int)) po_none)) pa_nil))) pa_nil)))
      (pss_one (ps_ret (pv 6))))))))))
theorem sc_law_kept_right : FnScope ["jar", "letters", "ties_now", "places_now", "other", "handed", "lot", "word", "told_now"] ["jar", "letters", "ties_now", "places_now", "other"] (defScope st_law_kept_right) := ⟨rfl, rfl, rfl, by decide +kernel, rfl, by decide +kernel, by decide +kernel⟩
theorem ok_law_kept_right (T : Hd w K mg base) : Cd P w K mg base 15 "_law_kept_right" (sp_law_kept_right K) [] := by
  obtain ⟨fd, F⟩ := T.def_ 37 (d := d_law_kept_right)
  have S := sc_law_kept_right
  refine ⟨_, fd, ["jar", "letters", "ties_now", "places_now", "other"], [], F.ok S (fun vs H Q E h => (w_law_kept_right K).len h) (fun cdv A outer s H vs Q E hr h => ⟨t_law_kept_right K eN, ?_, (w_law_kept_right K).body h⟩), T.glo 53, F.kp, F.bindsN fun _ _ _ _ _ _ us hl => match us, hl with | [_, _, _, _, _], _ => rfl, .nil⟩
  exact (pss_cons (ps_par (i := 5) (j := 6) rfl S.nd rfl rfl (by decide) rfl rfl (pa_cons (pe_callTy cl_uList (by rfl) (T.free 25) bt_list (pa_cons (pv 1) pa_nil)) (pa_cons (pe_callTy cl_uList (by rfl) (T.free 25) bt_list (pa_cons (pv 3) pa_nil)) pa_nil)) (by rfl))
      (pss_cons (ps_asg (pe_cd (ok_law_heard_swapped T) hr (by omega) passE0 rfl (pa_cons (pv 5) (pa_cons (pv 2) (pa_cons (pv 6) pa_nil)))) (pg_tup rfl (pgs_cons (pg_n 7 S.nd) (pgs_cons (pg_n 8 S.nd) pgs_nil))))
      (pss_cons (ps_if (PW.pt (pw_or (pt_cmpR (op_uNe hr.units) (pv 7) pe_str (nomark _)) (pw_or (pt_cmpR (op_uNe hr.units) (pv 5) (pv 1) (nomark _)) (pw_or (pt_cmpR (op_uNe hr.units) (pv 6) (pv 3) (nomark _)) (pw_or1 (pt_not (pt_val (pe_cd (ok_law_yq_same T 12) hr (by omega) passE0 rfl (pa_cons (pv 8) (pa_cons (pv 4) pa_nil)))))))))) (pss_one (ps_ret pe_bl)) pss_nil)
      (pss_cons (ps_expr (pe_bm PySem.F.plainAttrs_list PySem.F.slot_list_append PySem.F.type_list_append mt_append (pv 8) (pa_cons pe_non pa_nil)))
      (pss_one (ps_ret (pe_and (pe_cmpR (op_uEq hr.units) (pv 5) (pv 1) (nomark _)) (pe_one (pe_cd (ok_law_yq_same T 12) hr (by omega) passE0 rfl (pa_cons (pe_cd (ok_law_heard_swapped T) hr (by omega) passE0 rfl (pa_cons (pv 5) (pa_cons (pv 2) (pa_cons (pv 6) pa_nil)))) (pa_cons (pe_tup (pa_cons pe_str (pa_cons (pv 4) pa_nil))) pa_nil)))))))))))
theorem sc_law_world_right : FnScope ["jar", "letters", "ties_now", "many", "places_now", "other", "things", "said", "owed", "thing", "behind", "odd"] ["jar", "letters", "ties_now"] (defScope st_law_world_right) := ⟨rfl, rfl, rfl, by decide +kernel, rfl, by decide +kernel, by decide +kernel⟩
theorem ok_law_world_right (T : Hd w K mg base) : Cd P w K mg base 16 "_law_world_right" (sp_law_world_right K) [] := by
  obtain ⟨fd, F⟩ := T.def_ 38 (d := d_law_world_right)
  have S := sc_law_world_right
  refine ⟨_, fd, ["jar", "letters", "ties_now"], [], F.ok S (fun vs H Q E h => (w_law_world_right K).len h) (fun cdv A outer s H vs Q E hr h => ⟨t_law_world_right K eN, ?_, (w_law_world_right K).body h⟩), T.glo 54, F.kp, F.bindsN fun _ _ _ _ _ _ us hl => match us, hl with | [_, _, _], _ => rfl, .nil⟩
  exact (pss_cons (ps_s 3 S.nd (pe_callB cl_uLen (by rfl) (T.free 10) bb_len (pa_cons (pv 1) pa_nil)))
      (pss_cons (ps_asg (pe_cd (ok_law_walk T) hr (by omega) passE0 rfl (pa_cons (pv 0) (pa_cons (pv 1) (pa_cons (pv 2) (pa_cons (pe_cd (ok_law_one T) hr (by omega) passE0 rfl (pa_cons (pv 0) (pa_cons (pe_lst (pa_cons pe_int (pa_cons pe_int (pa_cons pe_int (pa_cons pe_int (pa_cons pe_int (pa_cons pe_int pa_nil))))))) pa_nil))) pa_nil))))) (pg_tup rfl (pgs_cons (pg_n 4 S.nd) (pgs_cons (pg_n 5 S.nd) pgs_nil))))
      (pss_cons (ps_s 6 S.nd (pe_op op_uAdd (pe_lst (pa_cons (pv 4) pa_nil)) (pe_cd (ok_law_bent T) hr (by omega) passE0 rfl (pa_cons (pv 0) (pa_cons (pv 4) (pa_cons (pv 3) pa_nil))))))
      (pss_cons (ps_par (i := 7) (j := 8) rfl S.nd rfl rfl (by decide) rfl rfl (pa_cons (pe_lst pa_nil) (pa_cons (pe_lst pa_nil) pa_nil)) (by rfl))
      (pss_cons (ps_for (passes_of rfl) rfl (pi_u (pv 6)) (pg_n 9 S.nd) (pss_cons (ps_s 10 S.nd (pe_cd (ok_law_lw_swapped T) hr (by omega) passE0 rfl (pa_cons (pv 1) (pa_cons (pv 2) (pa_cons (pv 9) pa_nil)))))
      (pss_cons (ps_expr (pe_bm PySem.F.plainAttrs_list PySem.F.slot_list_append PySem.F.type_list_append mt_append (pv 7) (pa_cons (pe_cd (ok_law_heard_swapped T) hr (by omega) passE0 rfl (pa_cons (pe_cd (ok_law_lw_handed T) hr (by omega) passE0 rfl (pa_cons (pv 0) (pa_cons (pv 1) pa_nil))) (pa_cons (pv 2) (pa_cons (pe_cd (ok_law_one T) hr (by omega) passE0 rfl (pa_cons (pv 0) (pa_cons (pe_lst (pa_cons (pv 9) (pa_cons (pe_callTy cl_uTuple (by rfl) (T.free 17) bt_tuple (pa_cons (pv 9) pa_nil)) pa_nil))) pa_nil))) pa_nil)))) pa_nil)))
      (pss_cons (ps_expr (pe_bm PySem.F.plainAttrs_list PySem.F.slot_list_append PySem.F.type_list_append mt_append (pv 8) (pa_cons (pe_ifExp (pt_cmpR op_uIsN (pv 10) pe_non (nomark _)) (pe_tup (pa_cons pe_str (pa_cons pe_str pa_nil))) (pe_tup (pa_cons pe_str (pa_cons (pv 10) pa_nil)))) pa_nil)))
      (pss_cons (ps_expr (pe_bm PySem.F.plainAttrs_list PySem.F.slot_list_append PySem.F.type_list_append mt_append (pv 7) (pa_cons (pe_cd (ok_law_heard_judged T) hr (by omega) passE0 rfl (pa_cons (pv 1) (pa_cons (pe_cd (ok_law_lw_handed T) hr (by omega) passE0 rfl (pa_cons (pv 0) (pa_cons (pv 5) pa_nil))) (pa_cons (pv 2) (pa_cons (pv 9) pa_nil))))) pa_nil)))
      (pss_cons (ps_expr (pe_bm PySem.F.plainAttrs_list PySem.F.slot_list_append PySem.F.type_list_append mt_append (pv 8) (pa_cons (pe_tup (pa_cons pe_str (pa_cons (pe_and (pe_cmpR op_uNotN (pv 10) pe_non (nomark _)) (pe_one (pe_cmpR (op_uEq hr.units) (pv 10) (pv 5) (nomark _)))) pa_nil))) pa_nil)))
      (pss_cons (ps_expr (pe_bm PySem.F.plainAttrs_list PySem.F.slot_list_append PySem.F.type_list_append mt_append (pv 7) (pa_cons (pe_cd (ok_law_heard_judged T) hr (by omega) passE0 rfl (pa_cons (pv 1) (pa_cons (pv 5) (pa_cons (pv 2) (pa_cons (pe_callTy cl_uTuple (by rfl) (T.free 17) bt_tuple (pa_cons (pv 9) pa_nil)) pa_nil))))) pa_nil)))
      (pss_one (ps_expr (pe_bm PySem.F.plainAttrs_list PySem.F.slot_list_append PySem.F.type_list_append mt_append (pv 8) (pa_cons (pe_tup (pa_cons pe_str (pa_cons pe_bl pa_nil))) pa_nil)))))))))))
      (pss_cons (ps_for (passes_of rfl) rfl (pi_u (pe_lst (pa_cons pe_non (pa_cons pe_int (pa_cons pe_str (pa_cons pe_dnewK (pa_cons pe_bl pa_nil))))))) (pg_n 11 S.nd) (pss_cons (ps_expr (pe_bm PySem.F.plainAttrs_list PySem.F.slot_list_extend PySem.F.type_list_extend mt_extend (pv 7) (pa_cons (pe_lst (pa_cons (pe_cd (ok_law_heard_swapped T) hr (by omega) passE0 rfl (pa_cons (pv 1) (pa_cons (pv 2) (pa_cons (pv 11) pa_nil)))) pa_nil)) pa_nil)))
      (pss_cons (ps_expr (pe_bm PySem.F.plainAttrs_list PySem.F.slot_list_extend PySem.F.type_list_extend mt_extend (pv 7) (pa_cons (pe_lst (pa_cons (pe_cd (ok_law_heard_judged T) hr (by omega) passE0 rfl (pa_cons (pv 1) (pa_cons (pv 1) (pa_cons (pv 2) (pa_cons (pv 11) pa_nil))))) pa_nil)) pa_nil)))
      (pss_one (ps_expr (pe_bm PySem.F.plainAttrs_list PySem.F.slot_list_extend PySem.F.type_list_extend mt_extend (pv 8) (pa_cons (pe_lst (pa_cons (pe_tup (pa_cons pe_str (pa_cons pe_str pa_nil))) (pa_cons (pe_tup (pa_cons pe_str (pa_cons pe_bl pa_nil))) pa_nil))) pa_nil)))))))
      (pss_cons (ps_expr (pe_bm PySem.F.plainAttrs_list PySem.F.slot_list_extend PySem.F.type_list_extend mt_extend (pv 7) (pa_cons (pe_lst (pa_cons (pe_cd (ok_law_heard_swapped T) hr (by omega) passE0 rfl (pa_cons (pv 1) (pa_cons (pv 2) (pa_cons (pe_tup pa_nil) pa_nil)))) (pa_cons (pe_cd (ok_law_heard_judged T) hr (by omega) passE0 rfl (pa_cons (pv 1) (pa_cons (pv 1) (pa_cons (pv 2) (pa_cons (pe_lst pa_nil) pa_nil))))) pa_nil))) pa_nil)))
      (pss_cons (ps_expr (pe_bm PySem.F.plainAttrs_list PySem.F.slot_list_extend PySem.F.type_list_extend mt_extend (pv 8) (pa_cons (pe_lst (pa_cons (pe_tup (pa_cons pe_str (pa_cons (pv 1) pa_nil))) (pa_cons (pe_tup (pa_cons pe_str (pa_cons pe_bl pa_nil))) pa_nil))) pa_nil)))
      (pss_one (ps_ret (pe_and (pe_cd (ok_law_yq_same T 12) hr (by omega) passE0 rfl (pa_cons (pv 7) (pa_cons (pv 8) pa_nil))) (pe_one (pe_cd (ok_law_kept_right T) hr (by omega) passE0 rfl (pa_cons (pv 0) (pa_cons (pv 1) (pa_cons (pv 2) (pa_cons (pv 4) (pa_cons (pv 5) pa_nil))))))))))))))))))
theorem sc_law : FnScope ["script", "jar", "many", "names_now"] ["script"] (defScope st_law) := ⟨rfl, rfl, rfl, by decide +kernel, rfl, by decide +kernel, by decide +kernel⟩
theorem okf_law (T : Hd w K mg base) {fd : FuncData} (F : FunD K d_law.name d_law.qual d_law.params d_law.body d_law.scope (d_law.dvs K) (d_law.kws K) (He.fAd K d_law.at_) fd) : FnOk P w K mg base (L2.CX P w) 17 (He.fAd K d_law.at_) fd ["script"] (sp_law K) := by
  have S := sc_law
  refine F.ok S (fun vs H Q E h => (w_law K E).len h) (fun cdv A outer s H vs Q E hr h => ⟨t_law K E, ?_, (w_law K E).body h⟩)
  exact (pss_cons (ps_s 1 S.nd (pe_cd (ok_law_pool T) hr (by omega) passE0 rfl (pa_cons (pv 0) pa_nil)))
      (pss_cons (ps_for (passes_of rfl) rfl (pi_u (pe_lst (pa_cons pe_int (pa_cons pe_int (pa_cons pe_int (pa_cons pe_int (pa_cons pe_int (pa_cons pe_int (pa_cons pe_int (pa_cons pe_int pa_nil)))))))))) (pg_n 2 S.nd) (pss_cons (ps_s 3 S.nd (pe_cd (ok_law_lw_words_names T) hr (by omega) passE0 rfl (pa_cons (pv 1) (pa_cons (pe_cd (ok_law_one T) hr (by omega) passE0 rfl (pa_cons (pv 1) (pa_cons (pe_lst (pa_cons pe_int (pa_cons pe_int (pa_cons pe_int (pa_cons pe_int pa_nil))))) pa_nil))) pa_nil))))
      (pss_one (ps_if (pt_not (pt_val (pe_cd (ok_law_world_right T) hr (by omega) passE0 rfl (pa_cons (pv 1) (pa_cons (pe_cd (ok_law_lw_word T) hr (by omega) passE0 rfl (pa_cons (pv 1) (pa_cons (pv 3) (pa_cons (pv 2) pa_nil)))) (pa_cons (pe_cd (ok_law_lw_ties T) hr (by omega) passE0 rfl (pa_cons (pv 1) (pa_cons (pv 3) pa_nil))) pa_nil)))))) (pss_one (ps_ret pe_bl)) pss_nil))))
      (pss_one (ps_ret pe_bl))))
end
end Lp.K68

set_option Elab.async false
set_option linter.all false
set_option maxRecDepth 100000
set_option maxHeartbeats 0
/-! k68H: the head and the end. -/
namespace Lp.K68
open PySem PySem.Spec PyProof.Rows L2 LamX Lp
abbrev Rr : PySem.W.OpenRow := PySem.W.OpenLaw.row PySem.Challenge.rw_looseties_k68_exchanges_judged_step_by_s
abbrev hk : PySem.W.Hook := hookY 4 fa fn tf exB
def ob (s : PySem.W.SharedT) : He.AlX := obsY 4 fa fn tf exB (HandSHeadRun.getT s)
theorem ob_eq (s : PySem.W.SharedT) : ob s = hk.obs s.abs := hookY_obs (HandSHeadRun.getT_eq s)
def loose : List Str := (["StoreError", "BadPart", "LETTERS", "MOST_LETTERS", "MOST_VALUE", "is_integer", "is_between", "is_value", "is_name", "BadTies", "BadWord", "is_tie", "check_ties_among", "check_ties", "is_bound", "MOST_VALUES", "is_letter", "check_word", "check_words", "exchange", "word_behind", "swapped", "are_swaps"] : List Str) ++
  (["_law_lw_is_bound", "_law_lw_pairs", "_law_lw_swapped", "_law_lw_words_names", "_law_lw_ties", "_law_lw_letter", "_law_lw_word", "_law_lw_handed", "_law_pool", "_law_take", "_law_one", "_law_mixed", "_law_yq_is_whole", "_law_yq_same", "_law_ear", "_law_heard_swapped", "_law_heard_judged", "_law_walk", "_law_bent", "_law_world_right", "_law_kept_right"] : List Str)
theorem run (w : World) : HandSHeadRun.RunEq Rr (PySem.W.view Rr.prog [51]) hk ob 4000 loose w := by
  intro os
  kernel_rfl
theorem law_at {P : Program} {w : World} {h : Heap} {mg : Str → Option Value} {fa' : Addr} (hP : P = PySem.Challenge.pw_looseties_k68_exchanges_judged_step_by_s) (Y : hk.says w h) (G : h.Ns mainGlobals mg) (hfa : mg ("law" : Str) = some (.ref fa')) :
    ∃ K : Fg, K.In h ∧ ∃ (fd : FuncData) (cs : List (Addr × Addr)) (sp : Sp), (∀ p ∈ cs, h.get? p.2 = some { cls := .none, data := .fields #[] }) ∧ (∀ p ∈ cs, K.lookup p.2 = none) ∧ (∀ p ∈ cs, PySem.W.CodeHd h p.1 p.2) ∧ (∀ (s : Shared) (u : Value), BindsTo s fd ⟨[u], []⟩ [("script", u)]) ∧
    (∀ (H : Hp) (a : Addr) (ns : List Int), ns.length ≤ 63 → (∀ z ∈ ns, Builtin.Int.intBits z ≤ 1048576) → (∀ p ∈ cs, H p.2 = some (.tbl #[])) → SqL K H a (ns.map V.int) → sp [.ref a] H (fun v _ => v = .bl true) fun _ _ _ => False) ∧
    ∀ base : Heap, K.In base → base.Ns mainGlobals mg → (∀ p ∈ cs, TabB base mg p.1 p.2) → FnOk P w K mg base (L2.CX P w) 17 fa' fd ["script"] sp := by
  obtain ⟨K, KX, c⟩ := Y
  obtain ⟨fd, F⟩ := c.t.d.def_ 39 (d := d_law) rfl
  have T : ∀ base : Heap, (∀ p ∈ tf.map (He.cT K), TabB base mg p.1 p.2) → Hd w K mg base := fun base tb => ⟨⟨h, KX, G, c⟩, fun p hp => tb _ (List.mem_map.mpr ⟨p, hp, rfl⟩)⟩
  refine ⟨K, KX, fd, tf.map (He.cT K), sp_law K, fun p hp => ?_, fun p hp => ?_, fun p hp => ?_, fun s u => ?_, fun H a ns hl hbits htab hs => ?_, fun base hK hG tb => ?_⟩
  · obtain ⟨q, hq, rfl⟩ := List.mem_map.mp hp
    exact c.empty q hq
  · obtain ⟨q, hq, rfl⟩ := List.mem_map.mp hp
    exact c.out q hq
  · obtain ⟨q, hq, rfl⟩ := List.mem_map.mp hp
    exact PySem.W.codeHd_of_K KX (c.hd q hq)
  · exact FunD.bindsA (ps := ["script"]) F (fun _ _ _ _ _ _ us hl => match us, hl with | [_], _ => rfl) s [u] rfl
  · refine ⟨fun _ => False, [.lst (ns.map .int)], fun r => r = .val (.bl true), noX, ?_, fun _ z => z.elim, ?_, ⟨ns, rfl, Nat.le_trans hl (by decide), hbits, rfl⟩, fun v r H2 hr n rv => ?_, .none⟩
    · have e : ∀ ns : List Int, RepL K (fun _ => False) H (ns.map V.int) (ns.map Dt.int) := fun ns => RepL.ofInts
      exact .cons (.lst (hs.elim (fun h => .inl ⟨id, h⟩) .inr) (e ns)) .nil
    · intro p hp
      obtain ⟨q, hq, rfl⟩ := List.mem_map.mp hp
      refine ⟨#[], htab _ (List.mem_map.mpr ⟨q, hq, rfl⟩), ?_, fun pos cv hc => ?_⟩
      · trivial
      · cases hc
    · subst hr
      cases (show Rep K _ H2 v (.bl true) from rv)
      rfl
  · have TB := T base tb
    have e : mg ("law" : Str) = some (.ref (He.ga K "law")) := TB.glo 55
    have e2 : fa' = He.ga K "law" := by
      rw [hfa] at e
      injection e with e
      injection e
    subst e2
    exact okf_law TB F
end Lp.K68
open PySem PySem.W PySem.Calls PyProof.Rows
theorem PySem.Challenge.cw_looseties_k68_exchanges_judged_step_by_s_holds : PySem.Challenge.rw_looseties_k68_exchanges_judged_step_by_s.Holds := by
  w_on; o_law
  refine HandSHeadRun.head_any (r := OpenLaw.row PySem.Challenge.rw_looseties_k68_exchanges_judged_step_by_s) (q := view (OpenLaw.row PySem.Challenge.rw_looseties_k68_exchanges_judged_step_by_s).prog [51]) (H := Lp.K68.hk) (ob := Lp.K68.ob) (M := 4000) (loose := Lp.K68.loose) (d := HandSHeadRun.topDef (OpenLaw.row PySem.Challenge.rw_looseties_k68_exchanges_judged_step_by_s).prog 51) (kwd := []) Lp.K68.ob_eq
    (by kernel_rfl) (fun s => by kernel_rfl) Lp.K68.run (by kernel_rfl) (by kernel_rfl) (by kernel_rfl) (by rfl) (by first | assumption | decide +kernel) (by decide +kernel) ⟨rfl, rfl, rfl, rfl, rfl, by decide +kernel⟩ ?hw ?hc
  case hw => w_witness2
  case hc =>
    refine LamX.walk_ofTsE (l := PySem.Challenge.rw_looseties_k68_exchanges_judged_step_by_s) (n := 63) (k := 17) (x := "script") (CX := fun w => L2.CX (PySem.Challenge.rw_looseties_k68_exchanges_judged_step_by_s).prog w) rfl (by decide) (by kernel_rfl) ⟨rfl, by decide, by decide⟩ ?F ?hCX
    case F =>
      intro w mg fa h Y G hmg0
      have hmg : mg ("law" : PySem.Str) = some (.ref fa) := by
        have e : (HandSHeadRun.topDef (OpenLaw.row PySem.Challenge.rw_looseties_k68_exchanges_judged_step_by_s).prog 51).name = ("law" : PySem.Str) := by kernel_rfl
        rw [← e]
        exact hmg0
      obtain ⟨K, KX, q⟩ := Lp.K68.law_at (P := (PySem.Challenge.rw_looseties_k68_exchanges_judged_step_by_s).prog) rfl Y G hmg
      exact ⟨K, KX, q⟩
    case hCX =>
      intro w H s e s' h
      obtain ⟨_, _, _, _, _, _, _, _, _, _, _, _, z⟩ := h
      exact z.elim
