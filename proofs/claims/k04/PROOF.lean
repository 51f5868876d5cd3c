import PyProof.Rows.All
import Wide.All
import OpenK.AllK
import Wide.FinOn
import HandS.ForMost
import HandS.Exc
import HandS.ExcOwn
import HandS.TryOnly
import HandS.Lambda
import HandS.IsInst
import HandS.Wide
import HandS.ExcInit
import HandS.ExcField
import HandS.ClsMeth
import HandS.TryMany
import PyProof.EqLayable
import HandS.Style
import HandS.Strs
import HandS.TupAny
import HandS.Deep
import HandS.More
import HandS.Codes
import HandS.Defaults
import HandS.Walk
import HandS.RaiseMore
import KE.GoesMore
import KE.GoesEnum
import PyProof.Draws
import HandS.Steps
import HandS.Head0
import HandS.Head1
import HandS.Head2
import HandS.HeadEnd
import HandS.HeadHook1
import HandS.HeadHook2
import HandS.HeadHook3
import HandS.HeadHook4
import HandS.HeadWalk
import HandS.EndTab
import HandS.Words
import HandS.WordsExc
import HandS.Ends
import HandS.LawCells
import HandS.TupLe
import PyProof.InstNe
import HandS.OwnEq
import HandS.RevTup
import HandS.MakeKwOnly
import PyProof.SumWalk
import PySem.Challenge.RW_looseties_k04_functions_refused_in_order
set_option Elab.async false
set_option linter.all false
set_option maxRecDepth 100000
set_option maxHeartbeats 4000000
/-! L0: data as trees, what stands for them in the abstract heap, how heaps go on; one backward rule for each reading. Own work, for all claims. -/
namespace Lp
open PySem PySem.Spec PyProof.Rows L2 LamX

/-- data as a tree; an instance by its class and its fields in order -/
inductive Dt where
  | non | bl (b : Bool) | int (i : Int) | str (s : Str)
  | tup (l : List Dt) | lst (l : List Dt) | dct (l : List (Key × Dt)) | obj (C : Addr) (l : List (Str × Dt))

/-- a list, a tuple of the written part -/
def WrL (K : PySem.W.Frag) (a : Addr) (xs : List V) : Prop := ∃ (o : Obj) (its : Array Value) (n : Nat), K.lookup a = some o ∧ o.cls = .type "list" ∧ o.dict = none ∧ o.data = .seq its n ∧ its.size ≤ sizeLine ∧ Vals xs its.toList
def WrT (K : PySem.W.Frag) (a : Addr) (xs : List V) : Prop := ∃ (o : Obj) (its : Array Value) (n : Nat), K.lookup a = some o ∧ o.cls = .type "tuple" ∧ o.data = .seq its n ∧ its.size ≤ sizeLine ∧ Vals xs its.toList
/-- .. outside S, or written -/
def SqLS (K : PySem.W.Frag) (S : Addr → Prop) (H : Hp) (a : Addr) (xs : List V) : Prop := (¬ S a ∧ Rd H a (.lst xs)) ∨ WrL K a xs
def SqTS (K : PySem.W.Frag) (S : Addr → Prop) (H : Hp) (a : Addr) (xs : List V) : Prop := (¬ S a ∧ Rd H a (.tup xs)) ∨ WrT K a xs
theorem SqLS.sq {K : PySem.W.Frag} {S : Addr → Prop} {H : Hp} {a : Addr} {xs : List V} (h : SqLS K S H a xs) : SqL K H a xs := h.elim (fun h => .inl h.2) .inr
theorem SqTS.sq {K : PySem.W.Frag} {S : Addr → Prop} {H : Hp} {a : Addr} {xs : List V} (h : SqTS K S H a xs) : SqT K H a xs := h.elim (fun h => .inl h.2) .inr
mutual
/-- the value v stands for d; no address of S is met on the way -/
inductive Rep (K : PySem.W.Frag) (S : Addr → Prop) (H : Hp) : V → Dt → Prop
  | non : Rep K S H .non .non
  | bl (b : Bool) : Rep K S H (.bl b) (.bl b)
  | int (i : Int) : Rep K S H (.int i) (.int i)
  | str (x : Str) : Rep K S H (.str x) (.str x)
  | tup {a : Addr} {xs : List V} {ds : List Dt} : SqTS K S H a xs → RepL K S H xs ds → Rep K S H (.ref a) (.tup ds)
  | lst {a : Addr} {xs : List V} {ds : List Dt} : SqLS K S H a xs → RepL K S H xs ds → Rep K S H (.ref a) (.lst ds)
  | dct {a : Addr} {xs : List (Key × V)} {ds : List (Key × Dt)} : ¬ S a → H a = some (.dK xs) → RepK K S H xs ds → Rep K S H (.ref a) (.dct ds)
  | obj {a C dx : Addr} {xs : List (Str × V)} {ds : List (Str × Dt)} : ¬ S a → H a = some (.ins C dx xs) → RepF K S H xs ds → Rep K S H (.ref a) (.obj C ds)
inductive RepL (K : PySem.W.Frag) (S : Addr → Prop) (H : Hp) : List V → List Dt → Prop
  | nil : RepL K S H [] []
  | cons {v : V} {d : Dt} {vs : List V} {ds : List Dt} : Rep K S H v d → RepL K S H vs ds → RepL K S H (v :: vs) (d :: ds)
inductive RepK (K : PySem.W.Frag) (S : Addr → Prop) (H : Hp) : List (Key × V) → List (Key × Dt) → Prop
  | nil : RepK K S H [] []
  | cons {k : Key} {v : V} {d : Dt} {vs : List (Key × V)} {ds : List (Key × Dt)} : Rep K S H v d → RepK K S H vs ds → RepK K S H ((k, v) :: vs) ((k, d) :: ds)
inductive RepF (K : PySem.W.Frag) (S : Addr → Prop) (H : Hp) : List (Str × V) → List (Str × Dt) → Prop
  | nil : RepF K S H [] []
  | cons {k : Str} {v : V} {d : Dt} {vs : List (Str × V)} {ds : List (Str × Dt)} : Rep K S H v d → RepF K S H vs ds → RepF K S H ((k, v) :: vs) ((k, d) :: ds)
end

/-- a table is no other thing -/
def NoTbl (o : HO) : Prop := ∀ ps, o ≠ .tbl ps
/-- nothing but a table stands there -/
def Fre (H : Hp) (p : Addr) : Prop := ∀ o, H p = some o → ¬ NoTbl o
theorem Fre.of {H : Hp} {p : Addr} (h : H p = none) : Fre H p := fun o e => by rw [h] at e; cases e
/-- the heap goes on from H to H': what is tracked outside S stays, tables may grow -/
structure Nx (T : List (Addr × Str)) (S : Addr → Prop) (H H' : Hp) : Prop where
  le : ∀ b o, H b = some o → NoTbl o → ¬ S b → H' b = some o
  dom : ∀ b, Fre H' b → Fre H b
  tab : Tabs T H → Tabs T H'
section
variable {T : List (Addr × Str)} {S S' : Addr → Prop} {H H1 H2 : Hp} {K : PySem.W.Frag}
theorem Nx.refl : Nx T S H H := ⟨fun _ _ h _ _ => h, fun _ h => h, fun t => t⟩
theorem Nx.trans (a : Nx T S H H1) (b : Nx T S H1 H2) : Nx T S H H2 := ⟨fun c o h n s => b.le c o (a.le c o h n s) n s, fun c h => a.dom c (b.dom c h), fun t => b.tab (a.tab t)⟩
theorem Nx.mono (a : Nx T S H H1) (h : ∀ b, S b → S' b) : Nx T S' H H1 := ⟨fun c o e n s => a.le c o e n fun z => s (h c z), a.dom, a.tab⟩
theorem noT_lst {xs} : NoTbl (.lst xs) := fun _ z => nomatch z
theorem noT_tup {xs} : NoTbl (.tup xs) := fun _ z => nomatch z
theorem noT_dK {xs} : NoTbl (.dK xs) := fun _ z => nomatch z
theorem noT_ins {C dx xs} : NoTbl (.ins C dx xs) := fun _ z => nomatch z
theorem noT_own {x} : NoTbl (.own x) := fun _ z => nomatch z
theorem noT_frz {o u} : NoTbl (.frz o u) := fun _ z => nomatch z
theorem noT_xd {fs} : NoTbl (.xd fs) := fun _ z => nomatch z
/-- something new -/
theorem Nx.new {p : Addr} {o : HO} (hp : H p = none) (n : NoTbl o) : Nx T S H (upd H p o) := by
  refine ⟨fun b u e _ _ => by rw [upd_ne (ne_of_none e hp)]; exact e, fun b e => ?_, fun t => t.ext fun b u e => by rw [upd_ne (ne_of_none e hp)]; exact e⟩
  by_cases h : b = p
  · rw [h]; exact .of hp
  · intro u hu; exact e u (by rw [upd_ne h]; exact hu)
/-- lists, tuples, dicts, instances: no table, no code object -/
def Pln : HO → Prop
  | .tbl _ => False
  | .ext _ => False
  | _ => True
theorem Pln.noT {o : HO} (h : Pln o) : NoTbl o := fun ps z => by rw [z] at h; exact h
/-- a change at a place of S that holds no table -/
theorem Nx.put {p : Addr} {o u : HO} (hs : S p) (hp : H p = some u) (nu : Pln u) (no : Pln o := by trivial) : Nx T S H (upd H p o) := by
  refine ⟨fun b v e _ s => by rw [upd_ne (fun z => s (by rw [z]; exact hs))]; exact e, fun b e => ?_, fun t => ?_⟩
  · by_cases h : b = p
    · rw [h] at e; exact (e o upd_same no.noT).elim
    · intro v hv; exact e v (by rw [upd_ne h]; exact hv)
  · intro q hq
    obtain ⟨ps, h1, h2, h3⟩ := t q hq
    have ne : q.1 ≠ p := fun z => by
      rw [z, hp] at h1
      exact nu.noT ps (Option.some.inj h1)
    refine ⟨ps, by rw [upd_ne ne]; exact h1, h2, fun pos cv hc => ?_⟩
    obtain ⟨c, e1, e2⟩ := h3 pos cv hc
    refine ⟨c, e1, ?_⟩
    rw [upd_ne]
    · exact e2
    · intro z
      rw [z, hp] at e2
      have e3 := Option.some.inj e2
      rw [e3] at nu
      exact nu
/-- from the library's own «all but tables stay» -/
theorem Nx.of_ext (e : ExtN H H1) (t : Tabs T H1) : Nx T S H H1 := ⟨fun b o h n _ => e b o h n, fun b h o q n => h o (e b o q n) n, fun _ => t⟩

theorem Nx.lst (x : Nx T S H H1) {a : Addr} {xs : List V} (h : H a = some (.lst xs)) (s : ¬ S a) : H1 a = some (.lst xs) := x.le _ _ h noT_lst s
theorem Nx.rd (x : Nx T S H H1) {a : Addr} {u : HO} (n : NoTbl u) (s : ¬ S a) (h : Rd H a u) : Rd H1 a u := by
  rcases h with h | ⟨o, h⟩
  · exact .inl (x.le _ _ h n s)
  · exact .inr ⟨o, x.le _ _ h noT_frz s⟩
theorem Nx.sqL (x : Nx T S H H1) {a : Addr} {xs : List V} (h : SqLS K S H a xs) : SqLS K S H1 a xs := h.elim (fun h => .inl ⟨h.1, x.rd noT_lst h.1 h.2⟩) .inr
theorem Nx.sqT (x : Nx T S H H1) {a : Addr} {xs : List V} (h : SqTS K S H a xs) : SqTS K S H1 a xs := h.elim (fun h => .inl ⟨h.1, x.rd noT_tup h.1 h.2⟩) .inr
mutual
theorem Rep.nx (x : Nx T S H H1) : ∀ {v : V} {d : Dt}, Rep K S H v d → Rep K S H1 v d
  | _, _, .non => .non
  | _, _, .bl b => .bl b
  | _, _, .int i => .int i
  | _, _, .str y => .str y
  | _, _, .tup h r => .tup (x.sqT h) (RepL.nx x r)
  | _, _, .lst h r => .lst (x.sqL h) (RepL.nx x r)
  | _, _, .dct s h r => .dct s (x.le _ _ h noT_dK s) (RepK.nx x r)
  | _, _, .obj s h r => .obj s (x.le _ _ h noT_ins s) (RepF.nx x r)
theorem RepL.nx (x : Nx T S H H1) : ∀ {v : List V} {d : List Dt}, RepL K S H v d → RepL K S H1 v d
  | _, _, .nil => .nil
  | _, _, .cons h r => .cons (Rep.nx x h) (RepL.nx x r)
theorem RepK.nx (x : Nx T S H H1) : ∀ {v : List (Key × V)} {d : List (Key × Dt)}, RepK K S H v d → RepK K S H1 v d
  | _, _, .nil => .nil
  | _, _, .cons h r => .cons (Rep.nx x h) (RepK.nx x r)
theorem RepF.nx (x : Nx T S H H1) : ∀ {v : List (Str × V)} {d : List (Str × Dt)}, RepF K S H v d → RepF K S H1 v d
  | _, _, .nil => .nil
  | _, _, .cons h r => .cons (Rep.nx x h) (RepF.nx x r)
end
/-- S may be another one where what is tracked outside S stays outside -/
structure Sub (S S' : Addr → Prop) (H : Hp) : Prop where
  le : ∀ b o, H b = some o → NoTbl o → ¬ S b → ¬ S' b
theorem Sub.of (h : ∀ b, S' b → S b) : Sub S S' H := ⟨fun b _ _ _ n z => n (h b z)⟩
theorem Sub.rd (x : Sub S S' H) {a : Addr} {u : HO} (n : NoTbl u) (s : ¬ S a) (h : Rd H a u) : ¬ S' a := by
  rcases h with h | ⟨o, h⟩
  · exact x.le _ _ h n s
  · exact x.le _ _ h noT_frz s
theorem Sub.sqL (x : Sub S S' H) {a : Addr} {xs : List V} (h : SqLS K S H a xs) : SqLS K S' H a xs := h.elim (fun h => .inl ⟨x.rd noT_lst h.1 h.2, h.2⟩) .inr
theorem Sub.sqT (x : Sub S S' H) {a : Addr} {xs : List V} (h : SqTS K S H a xs) : SqTS K S' H a xs := h.elim (fun h => .inl ⟨x.rd noT_tup h.1 h.2, h.2⟩) .inr
mutual
theorem Rep.sub (x : Sub S S' H) : ∀ {v : V} {d : Dt}, Rep K S H v d → Rep K S' H v d
  | _, _, .non => .non
  | _, _, .bl b => .bl b
  | _, _, .int i => .int i
  | _, _, .str y => .str y
  | _, _, .tup h r => .tup (x.sqT h) (RepL.sub x r)
  | _, _, .lst h r => .lst (x.sqL h) (RepL.sub x r)
  | _, _, .dct s h r => .dct (x.le _ _ h noT_dK s) h (RepK.sub x r)
  | _, _, .obj s h r => .obj (x.le _ _ h noT_ins s) h (RepF.sub x r)
theorem RepL.sub (x : Sub S S' H) : ∀ {v : List V} {d : List Dt}, RepL K S H v d → RepL K S' H v d
  | _, _, .nil => .nil
  | _, _, .cons h r => .cons (Rep.sub x h) (RepL.sub x r)
theorem RepK.sub (x : Sub S S' H) : ∀ {v : List (Key × V)} {d : List (Key × Dt)}, RepK K S H v d → RepK K S' H v d
  | _, _, .nil => .nil
  | _, _, .cons h r => .cons (Rep.sub x h) (RepK.sub x r)
theorem RepF.sub (x : Sub S S' H) : ∀ {v : List (Str × V)} {d : List (Str × Dt)}, RepF K S H v d → RepF K S' H v d
  | _, _, .nil => .nil
  | _, _, .cons h r => .cons (Rep.sub x h) (RepF.sub x r)
end
end
end Lp

set_option Elab.async false
set_option linter.all false
set_option maxRecDepth 100000
set_option maxHeartbeats 4000000
/-! L1: exceptions of the program: an __init__ that calls its base's by the class, several clauses with and without a name. Own work. -/
namespace Lp
open PySem PySem.Spec PyProof.Rows L2 LamX
/-- what the written part says of an own base class at CS whose __init__ is ValueError's -/
structure StBase (K : PySem.W.Frag) (CS : Addr) : Prop where
  rd : ClX.CRead K CS (.type "type")
  at_ : PySem.W.findCls K (.ref CS) (.type "type") "__init__" = some (.val (.builtin "ValueError.__init__"))
section
variable {X : Cx} {e : Expr} {es : List Expr} {ta : TA} {p1 p2 pos : Pos} {x : Str} {CS : Addr}
theorem pe_stinit {pl : Sem Bool} (hg : Gl X x) (hm : X.mg x = some (.ref CS)) (B : StBase X.K CS) (ha : PA X (e :: es) ta) (hdb : (x == ("__debug__" : Str)) = false := by decide)
    (hc : eval (.Call (.Attribute (.Name x p1) "__init__" p2) (e :: es) [] pos) X.env = (do
      let ov ← eval (.Name x p1) X.env
      standAt p2.atName
      let (f, first) ← holding [ov] (getMethod ov "__init__" pl)
      callWith pos f first (backTo pos (starEach (e :: es) X.env)) (backToKw pos (keywordEach [] X.env))) := by rfl)
    (he : starEach (e :: es) X.env = (false, eval e X.env) :: starEach es X.env := by rfl) (hpl : (backTo pos (starEach es X.env)).any (·.1) = false := by rfl) :
    PE X (.Call (.Attribute (.Name x p1) "__init__" p2) (e :: es) [] pos) (tVeI X.K ta) := by
  refine ⟨fun pins s σ H Q I h => ?_⟩
  refine PySem.W.methodCall_KW (ld_glob I hg hm ?_ hdb) hc
  refine PySem.W.method_cls I.kIn B.rd.ga (PySem.W.cls_value I.kIn B.rd.rd B.at_ rfl ?_)
  show wpAny _ _ (callWith pos (Value.builtin "ValueError.__init__") [] (backTo pos (starEach (e :: es) X.env)) []) _ _ _
  refine PyProof.Rows.callWith_method1 (thn (ha.run pos pins _ σ H _ (I.tok _) h) fun us s1 ⟨vs, H1, I1, r1, a, C, ws, ev, hl, T, ea, q⟩ => ?_) he hpl
  subst ev
  cases r1 with
  | @cons _ u0 _ ur ra rw' =>
    obtain rfl : u0 = Value.ref a := ra
    have hlen : ur.length ≤ sizeLine := by
      rw [← Paired.length rw', sizeLine_eq]
      omega
    exact oinit_ok T I1 ea hlen fun s' J => ⟨.non, H1, J, rfl, q⟩
end

/-! ### try .. except A as n: .. except B: .. -/
/-- one clause: what it names, where the error goes (a slot, or nowhere), its suite -/
abbrev Cl := Value × Option Nat × (Addr → Value → Option Addr → TS)
/-- the suite's ends where the error stood at slot i: the slot is emptied -/
def unAs (i : Option Nat) (D : Ends) : Ends := match i with
  | none => D
  | some i => { nx := fun σ H => D.nx (σ.set i none) H, rt := D.rt, bk := fun σ H => D.bk (σ.set i none) H, ct := fun σ H => D.ct (σ.set i none) H }
def toAs (i : Option Nat) (a : Addr) (σ : L2.St) : L2.St := match i with
  | none => σ
  | some i => σ.set i (some (.ref a))
def wCls (K : PySem.W.Frag) (Wout : WX) (D : Ends) : List Cl → WX
  | [] => Wout
  | (c, i, ts) :: r => fun cls d σ H => ∃ b, PySem.W.exmOne K cls c = some b ∧ (b = true → ∀ a, H a = none → ts a cls d (unAs i D) (toAs i a σ) H) ∧ (b = false → wCls K Wout D r cls d σ H)
/-- the name of a clause: none, or a local at its slot -/
def NmOk (X : Cx) : Option Str → Option Nat → Prop
  | none, none => True
  | some n, some i => X.N.Nodup ∧ X.N[i]? = some n ∧ X.env.kindOf n = some .local
  | _, _ => False
inductive ClsOk (X : Cx) : List ExceptHandler → List Cl → Prop
  | nil : ClsOk X [] []
  | cons {x : Str} {c : Value} {nm : Option Str} {i : Option Nat} {ts : Addr → Value → Option Addr → TS} {b₀ : Stmt} {suite : List Stmt} {np pos' : Pos} {hds : List ExceptHandler} {l : List Cl} (hc : Names X x c) (hn : NmOk X nm i)
      (hsu : ∀ (a : Addr) (oe : Obj) (cls : Value) (d : Option Addr) (pn : List (Addr × Obj)), Zc cls d oe → (∃ vs, oe.data = .fields vs) → PSs (X.suite a ((a, oe) :: pn)) (b₀ :: suite) (ts a cls d)) (r : ClsOk X hds l) :
      ClsOk X (.ExceptHandler (some (.Name x np)) nm (b₀ :: suite) pos' :: hds) ((c, i, ts) :: l)
section
variable {X : Cx} {body : List Stmt} {h₀ : ExceptHandler} {hds : List ExceptHandler} {l : List Cl} {pos : Pos} {tb : WX → TS} {Wout : WX}
theorem ps_try_cls (hs : X.stack = X.env :: X.outer) (hf : X.env.frame = some X.env.locals) (tk : Takes X Wout)
    (hb : ∀ (W : WX) (pn : List (Addr × Obj)) (xe : Value → Shared → Prop), Takes (X.tr pn xe) W → PassesOwn (model X.prog X.w) X.A X.env xe → PSs (X.tr pn xe) body (tb W))
    (hh : ClsOk X (h₀ :: hds) l) : PS X (.Try body (h₀ :: hds) [] [] pos) (fun D σ H => tb (wCls X.K Wout D l) D σ H) := by
  refine ⟨fun pins s σ H D I h => ?_⟩
  have ok := I.ok
  have hfr : X.A.frames = some (X.env :: X.outer) := by rw [ok.frames, hs]
  refine wpAny_Try_except ?_
  refine wpAny_mono ((hb (wCls X.K Wout D l) (X.pn ++ pins) (fun e s₁ => wpAny (model X.prog X.w) X.A (noteFrame e X.env) (fun _ s₂ => wpAny (model X.prog X.w) X.A (setFlight e none) (fun _ s₃ =>
    wpAny (model X.prog X.w) X.A (handleBy e X.env (h₀ :: hds)) (SP X pins D) X.xe s₃) X.xe s₂) X.xe s₁) (fun u s' xx => ?_) PassesOwn.looking).run [] s σ H D (I.toTry _) h) (fun f s1 hsp => ?_) (fun e s1 he => he)
  · obtain ⟨a, B, sI, pins', σ', H', cls, d, rfl, J', nb, up, sky, na, os, ag, w⟩ := xx
    have J : Inv X pins σ' H' sI := J'.ofTry ok
    have sky' : Sky B (X.env :: X.outer) a (Zc cls d) X.env.locals s'.heap := by rw [← hs]; exact sky
    show wpAny (model X.prog X.w) X.A (noteFrame (.ref a) X.env) _ _ _
    refine Sky.land Zc.steady hfr hf sky' fun h3 fl3 up3 => ?_
    have J3 : Inv X pins σ' H' { s' with heap := h3 } := J.landed nb fl3.1 (up.trans up3) os ag
    obtain ⟨oe3, vs3, he3, hz3, hd3⟩ := fl3.there
    have notFr : ∀ {h : Heap} {o : Obj} {vs : Array Value}, h.FunFrames B (X.env :: X.outer) → h.get? a = some o → o.data = .fields vs → a ∉ frs (X.env :: X.outer) := fun {h o vs} ff e dd hm => by
      obtain ⟨_, o', e', hnf⟩ := ff.mem hm
      rw [e] at e'; cases e'
      exact hnf _ dd
    have nfr := notFr fl3.2.2.1 he3 hd3
    have nL : a ≠ X.env.locals := fun z => nfr (List.mem_filterMap.mpr ⟨X.env, List.mem_cons_self, by rw [hf, z]⟩)
    have nF : a ∉ X.fs := fun hm => by
      obtain ⟨e, he, q⟩ := List.mem_filterMap.mp hm
      exact nfr (List.mem_filterMap.mpr ⟨e, List.mem_cons_of_mem _ he, q⟩)
    have S3 := J3.suite he3 hd3 na nL nF
    have go : ∀ {hds' : List ExceptHandler} {l' : List Cl}, ClsOk X hds' l' → wCls X.K Wout D l' cls d σ' H' →
        wpAny (model X.prog X.w) X.A (handleBy (.ref a) X.env hds') (SP X pins D) X.xe { s' with heap := h3 } := by
      intro hds' l' hk
      induction hk with
      | nil =>
        intro w
        refine wpAny_handleBy_nil ?_
        obtain ⟨k1, k2, k3, oe, vs, T, oT, ts', he, hz, hd, h1, hr⟩ := id fl3
        unfold PySem.passOn
        refine wpAny_bind (wpAny_field he hd h1 ?_)
        rw [if_neg (show ¬ ((Value.ref T == Value.none) = true) from by simp)]
        have fin : wpAny (model X.prog X.w) X.A (setFlight (.ref a) X.env.frame) (fun _ s4 => wpAny (model X.prog X.w) X.A (throw (.ref a) : Sem Flow) (SP X pins D) X.xe s4) X.xe { s' with heap := h3 } := by
          rw [hf]
          refine HandSPX.setFlight_upZ fl3 fun h4 hh4 up4 => wpAny_throw (tk _ _ ?_)
          exact ⟨a, B, sI, pins, σ', H', cls, d, rfl, J, nb, (up.trans up3).trans up4, .inr (.inr (by rw [hs]; exact hh4)), na, os, ag, w⟩
        first
          | exact wpAny_bind (wpAny_pure (wpAny_bind fin))
          | exact wpAny_bind fin
      | @cons x c nm i ts b₀ suite np pos' hds2 l2 hc hn hsu r ih =>
        intro w
        obtain ⟨b, hb1, hyes, hno⟩ := w
        refine wpAny_handleBy_cons (codeAny_handlers_test ?_) (by intro q; cases q)
        have LT : PySem.W.Looks (model X.prog X.w) h3 (typeOf (.ref a)) cls := fun A Q E s k q => wpAny_typeOf_ref (k _ _ he3) (by rw [hz3.1]; exact q)
        have LM := PySem.W.exm_one (M := model X.prog X.w) (J3.kIn) LT hb1
        have test : ∀ {Q : Value → Shared → Prop} {E : Value → Shared → Prop}, Q c { s' with heap := h3 } → wpAny (model X.prog X.w) (X.A.mark (some (.ref a))) (eval (.Name x np) X.env) Q E { s' with heap := h3 } := fun {Q E} q => by
          obtain ⟨hg, hdbg, hm | ⟨hm, hv, hnn⟩⟩ := hc
          · exact ld_glob (X := X.suite a ((a, oe3) :: (X.pn ++ pins))) S3 hg hm q hdbg
          · exact ld_blt (X := X.suite a ((a, oe3) :: (X.pn ++ pins))) S3 hg hm hv q hnn hdbg
        refine test (LM.here ?_)
        cases b with
        | true =>
          cases nm with
          | none =>
            cases i with
            | some i => exact False.elim hn
            | none =>
              refine codeAny_handlers_suite ?_
              refine HandSPX.lands_againZ fl3 fun h4 fl4 up4 => ?_
              have J4 : Inv X pins σ' H' { s' with heap := h4 } := J.landed nb fl4.1 ((up.trans up3).trans up4) os ag
              obtain ⟨oe4, vs4, he4, hz4, hd4⟩ := fl4.there
              have S4 := J4.suite he4 hd4 na nL nF
              refine wpAny_mono ((hsu a oe4 cls d (X.pn ++ pins) hz4 ⟨_, hd4⟩).run [] _ _ H' _ S4 (hyes rfl a na)) (fun f s6 hsp => ?_) (fun _ _ z => False.elim z)
              cases f with
              | next =>
                obtain ⟨σ6, H6, S6, q6⟩ := hsp
                exact ⟨_, _, S6.unsuite ok, q6⟩
              | brk =>
                obtain ⟨σ6, H6, S6, q6⟩ := hsp
                exact ⟨_, _, S6.unsuite ok, q6⟩
              | cont =>
                obtain ⟨σ6, H6, S6, q6⟩ := hsp
                exact ⟨_, _, S6.unsuite ok, q6⟩
              | ret u =>
                obtain ⟨v6, σ6, H6, S6, r6, q6⟩ := hsp
                exact ⟨_, _, _, S6.unsuite ok, r6, q6⟩
          | some n =>
            cases i with
            | none => exact False.elim hn
            | some i =>
              obtain ⟨hN, hi, hln⟩ := hn
              have hloc : Loc X.env.scope n := .inl hln
              refine codeAny_handlers_suite_as ?_
              refine HandSPX.lands_againZ fl3 fun h4 fl4 up4 => ?_
              have J4 : Inv X pins σ' H' { s' with heap := h4 } := J.landed nb fl4.1 ((up.trans up3).trans up4) os ag
              obtain ⟨oe4, vs4, he4, hz4, hd4⟩ := fl4.there
              have S4 := J4.suite he4 hd4 na nL nF
              refine store_ok (X := X.suite a ((a, oe4) :: (X.pn ++ pins))) (v := .ref a) S4 hN hi hloc rfl (fun s5 S5 => ?_) (.inr hln)
              refine wpAny_mono ((hsu a oe4 cls d (X.pn ++ pins) hz4 ⟨_, hd4⟩).run [] s5 _ H' _ S5 (hyes rfl a na)) (fun f s6 hsp => ?_) (fun _ _ z => False.elim z)
              have end_ : ∀ {σ6 : L2.St} {H6 : Hp} {Q : Shared → Prop}, Inv (X.suite a ((a, oe4) :: (X.pn ++ pins))) [] σ6 H6 s6 → (∀ s7, Inv X pins (σ6.set i none) H6 s7 → Q s7) →
                  wpAny (model X.prog X.w) X.A (do bindName X.env n .none; unbindBehindTheSuite X.env n pos') (fun _ s7 => Q s7) X.xe s6 := fun {σ6 H6 Q} S6 hq => gone_ok (S6.unsuite ok) hN hi hln hq
              cases f with
              | next =>
                obtain ⟨σ6, H6, S6, q6⟩ := hsp
                exact end_ S6 fun s7 J7 => ⟨_, _, J7, q6⟩
              | brk =>
                obtain ⟨σ6, H6, S6, q6⟩ := hsp
                exact end_ S6 fun s7 J7 => ⟨_, _, J7, q6⟩
              | cont =>
                obtain ⟨σ6, H6, S6, q6⟩ := hsp
                exact end_ S6 fun s7 J7 => ⟨_, _, J7, q6⟩
              | ret u =>
                obtain ⟨v6, σ6, H6, S6, r6, q6⟩ := hsp
                exact end_ S6 fun s7 J7 => ⟨_, _, _, J7, r6, q6⟩
        | false =>
          show wpAny _ X.A (handleBy (.ref a) X.env hds2) _ _ _
          exact ih (hno rfl)
    exact go hh w
  · cases f with
    | next =>
      obtain ⟨σ', H', J', q⟩ := hsp
      exact wpAny_execs_nil ⟨σ', H', J'.ofTry ok, q⟩
    | brk =>
      obtain ⟨σ', H', J', q⟩ := hsp
      exact ⟨σ', H', J'.ofTry ok, q⟩
    | cont =>
      obtain ⟨σ', H', J', q⟩ := hsp
      exact ⟨σ', H', J'.ofTry ok, q⟩
    | ret u =>
      obtain ⟨v, σ', H', J', r, q⟩ := hsp
      exact ⟨v, σ', H', J'.ofTry ok, r, q⟩
end
end Lp

set_option Elab.async false
set_option linter.all false
set_option maxRecDepth 100000
set_option maxHeartbeats 4000000
/-! L2h: a def that is handed a lambda and tells («told», value), or a caught error by its name and field. Own work. -/
namespace Lp
open PySem PySem.Spec PyProof.Rows L2 LamX
/-- a clause of such a def: the class at C, the word, the field that is told (none: None) -/
abbrev HCl := Addr × Str × Option Str
def hCh (K : PySem.W.Frag) (Q : VK) : List HCl → XK
  | [] => fun _ _ _ => False
  | (C, nm, fo) :: r => fun cls d H => ∃ b, PySem.W.exmOne K cls (.ref C) = some b ∧
      (b = true → (match fo with
        | some f => cls = .ref C ∧ ∃ (dd : Addr) (fs : List (Str × V)) (v : V), d = some dd ∧ H dd = some (.xd fs) ∧ fs.lookup f = some v ∧ ∀ p, H p = none → Q (.ref p) (upd H p (.tup [.str nm, v]))
        | none => ∀ p, H p = none → Q (.ref p) (upd H p (.tup [.str nm, .non])))) ∧ (b = false → hCh K Q r cls d H)
/-- what such a def makes of the lambda's reading -/
def TTh (K : PySem.W.Frag) (w : Str) (L : List HCl) : (XK → Hp → VK → Prop) → Hp → VK → Prop := fun tl H Q =>
  tl (hCh K Q L) H fun v H1 => [V.str w, v].length ≤ sizeLine ∧ ∀ p, H1 p = none → Q (.ref p) (upd H1 p (.tup [.str w, v]))
def clOf (i : Nat) : HCl → Cl
  | (C, nm, some f) => (.ref C, some i, fun a cls d => tRet (tTup (tCons (tC (.str nm)) (tCons (tXf a cls d C f (tVar i)) tNil))))
  | (C, nm, none) => (.ref C, none, fun _ _ _ => tRet (tTup (tCons (tC (.str nm)) (tCons (tC .non) tNil))))
theorem two_size : 2 ≤ sizeLine := by rw [sizeLine_eq]; decide
theorem hCh_w {K : PySem.W.Frag} {D : Ends} {i : Nat} : ∀ (L : List HCl) {cls : Value} {d : Option Addr} {σ : L2.St} {H : Hp}, i < σ.length → hCh K D.rt L cls d H → wCls K (fun _ _ _ _ => False) D (L.map (clOf i)) cls d σ H
  | [], _, _, _, _, _, h => h
  | (C, nm, fo) :: r, cls, d, σ, H, hl, h => by
    obtain ⟨b, e, hy, hn⟩ := h
    cases fo with
    | some f =>
      refine ⟨b, e, fun hb a ha => ?_, fun hb => hCh_w r hl (hn hb)⟩
      obtain ⟨ec, dd, fs, v, ed, e1, e2, q⟩ := hy hb
      show tTup _ _ _ _
      refine ⟨.ref a, ?_, rfl, ec, dd, fs, v, ed, e1, e2, two_size, q⟩
      show (σ.set i (some (V.ref a)))[i]? = _
      rw [List.getElem?_set_self hl]
    | none =>
      refine ⟨b, e, fun hb a ha => ?_, fun hb => hCh_w r hl (hn hb)⟩
      exact ⟨two_size, hy hb⟩
theorem takes_len {X : Cx} {W : WX} (tk : Takes X W) : Takes X (fun cls d σ H => σ.length = X.N.length → W cls d σ H) := fun u s' ⟨a, B, sI, pins, σ, H, cls, d, e, I, nb, up, sky, na, os, ag, w⟩ =>
  tk u s' ⟨a, B, sI, pins, σ, H, cls, d, e, I, nb, up, sky, na, os, ag, w I.len⟩
section
variable {X : Cx}
/-- the clauses' text -/
theorem heard_gives {Ng : List Str} {x a q tw : Str} {sg : Scope} {g : Addr} {cdg : Value} {h₀ : ExceptHandler} {hds : List ExceptHandler} {L : List HCl} {i j0 k0 : Nat} {p0 p1 p2 p3 p4 p5 : Pos} (hi : i < Ng.length) (hi0 : 0 < Ng.length)
    (hcl : ∀ (s : Shared) (H : Hp), ClsOk (cxOf C8.CX0 X.prog X.w X.K X.mg X.base Ng x sg g cdg X.A X.stack s H C8.E0).nox (h₀ :: hds) (L.map (clOf i))) :
    GivesTo X Ng x sg g cdg [.Try [.Return (some (.Tuple [.Constant (.str tw) j0 p0, .Call (.Name a p1) [] [] p2] k0 p3)) p4] (h₀ :: hds) [] [] p5] a q (TTh X.K tw L) := by
  intro f c' s H Q tl act hc h
  refine ⟨_, pss_one (ps_try_cls (X := (cxOf C8.CX0 X.prog X.w X.K X.mg X.base Ng x sg g cdg X.A X.stack s H C8.E0).nox) (Wout := fun _ _ _ _ => False) (l := L.map (clOf i))
      (tb := fun W D σ H => ∃ Ech : XK, (∀ cls d σ' H', Ech cls d H' → σ'.length = Ng.length → W cls d σ' H') ∧ σ[0]? = some (some (.ref f)) ∧ H c' = some (CodeO c' q) ∧ tl Ech H fun v H1 => [V.str tw, v].length ≤ sizeLine ∧ ∀ p, H1 p = none → D.rt (.ref p) (upd H1 p (.tup [.str tw, v])))
      rfl rfl LamX.takes0 (fun W pn xe tk _ => ?_) (hcl s H)), ?_⟩
  · refine ⟨fun pins s' σ H' D I h' => ?_⟩
    obtain ⟨Ech, hW, h1, h2, h3⟩ := h'
    have hp := act (fun cls d σ H => σ.length = Ng.length → W cls d σ H) pn xe Ech p1 p2 (takes_len tk) (fun cls d σ' H' e => hW cls d σ' H' e)
    have hq := pss_one (ps_ret (pos := p4) (pe_tup (pos := p3) (x1 := k0) (pa_cons (pe_str (x := tw) (j := j0) (pos := p0)) (pa_cons hp pa_nil))))
    exact hq.run pins s' σ H' D I ⟨h1, h2, by
      refine (?_ : tl Ech H' _)
      exact h3⟩
  · refine ⟨hCh X.K Q L, fun cls d σ' H' e hl => hCh_w (D := { nx := fun _ H' => Q .non H', rt := Q }) L (by rw [hl]; exact hi) e, ?_, hc, h⟩
    show (L2.start Ng [V.ref f])[0]? = _
    rfl
end
end Lp

set_option Elab.async false
set_option linter.all false
set_option maxRecDepth 100000
set_option maxHeartbeats 4000000
/-! L3: one rule for an operator whatever its operands are; the readings as backward rules; a def, a method, a maker with what a caller asks of it. Own work. -/
namespace Lp
open PySem PySem.Spec PyProof.Rows L2 LamX
abbrev Fg := PySem.W.Frag
/-! ### operators -/
def uAdd (K : Fg) : R2 := fun x y H Q => rI0 (fun i j => .int (i + j)) x y H Q ∨ ((∃ i j, x = .str i ∧ y = .str j ∧ i.length + j.length ≤ sizeLine ∧ Q (.str (i ++ j)) H) ∨ (rCat x y H Q ∨ rCatA K x y H Q))
def uSub : R2 := rI0 fun i j => .int (i - j)
def uMul : R2 := fun x y H Q => rI CMul (fun i j => .int (i * j)) x y H Q ∨ (rI CMulW (fun i j => .int (i * j)) x y H Q ∨ rRep x y H Q)
def uMod : R2 := rI (fun _ j => 0 < j) fun i j => .int (i % j)
def uFdiv : R2 := rI CDivW fun i j => .int (i / j)
def uPow : R2 := rI CPow fun i j => .int (i ^ j.toNat)
def rDctEq : R2 := fun x y H Q => ∃ a b kvs, x = .ref a ∧ y = .ref b ∧ H a = some (.dK kvs) ∧ H b = some (.dK kvs) ∧ (kvs.map (·.1)).Nodup ∧ (∀ p ∈ kvs, flatB p.2 = true) ∧ Q (.bl true) H
def uEq (K : Fg) : R2 := fun x y H Q => rEq x y H Q ∨ (rEqD K x y H Q ∨ rDctEq x y H Q)
def uNe (K : Fg) : R2 := fun x y H Q => rNe x y H Q ∨ rNeD K x y H Q
def rLtS : R2 := fun x y H Q => ∃ i j, x = .str i ∧ y = .str j ∧ Q (.bl (decide (i.cps.toList < j.cps.toList))) H
def uLt : R2 := fun x y H Q => rI0 (fun i j => .bl (decide (i < j))) x y H Q ∨ rLtS x y H Q
def uLe : R2 := rI0 fun i j => .bl (decide (i ≤ j))
def uGt : R2 := rI0 fun i j => .bl (decide (j < i))
def uGe : R2 := rI0 fun i j => .bl (decide (j ≤ i))
def uIsN : R2 := fun x y H Q => y = .non ∧ Q (.bl (decide (x = .non))) H
def uNotN : R2 := fun x y H Q => y = .non ∧ Q (.bl (!decide (x = .non))) H
def uIn (K : Fg) : R2 := fun x y H Q => rIn K false x y H Q ∨ rInD K x y H Q
def uNin (K : Fg) : R2 := fun x y H Q => rIn K true x y H Q ∨ rNotInD K x y H Q
section
variable {X : Cx}
theorem op_uAdd : OpR X (binaryOp .Add) (uAdd X.K) := op_add.or (op_add_str.or (op_cat.or op_catA))
theorem op_uSub : OpR X (binaryOp .Sub) uSub := op_sub
theorem op_uMul : OpR X (binaryOp .Mult) uMul := op_mul.or (op_mulW.or op_rep)
theorem op_uMod : OpR X (binaryOp .Mod) uMod := op_mod
theorem op_uFdiv : OpR X (binaryOp .FloorDiv) uFdiv := op_fdivW
theorem op_uPow : OpR X (binaryOp .Pow) uPow := op_pow
theorem op_uEq (hu : X.A.units + 64 < cLine) : OpR X (compareOp .Eq) (uEq X.K) := op_eq.or ((op_eqD hu).or (op_eq_dict (Nat.lt_of_le_of_lt (by omega) hu)))
theorem op_uNe (hu : X.A.units + 64 < cLine) : OpR X (compareOp .NotEq) (uNe X.K) := op_ne.or (op_neD hu)
theorem op_uLt : OpR X (compareOp .Lt) uLt := op_lt.or op_lt_str
theorem op_uLe : OpR X (compareOp .LtE) uLe := op_le
theorem op_uGt : OpR X (compareOp .Gt) uGt := op_gt
theorem op_uGe : OpR X (compareOp .GtE) uGe := op_ge
theorem op_uIsN : OpR X (compareOp .Is) uIsN := op_isN
theorem op_uNotN : OpR X (compareOp .IsNot) uNotN := op_notN
theorem op_uIn (hu : X.A.units + 65 < cLine) : OpR X (compareOp .In) (uIn X.K) := op_in_seq.or (op_inD hu)
theorem op_uNin (hu : X.A.units + 65 < cLine) : OpR X (compareOp .NotIn) (uNin X.K) := op_notIn_seq.or (op_notInD hu)
theorem units65 {k : Nat} {A : Around} (r : Room k A) : A.units + 65 < cLine := by have := r.un; omega
end
/-! ### calls of built-ins -/
def uLen (K : Fg) : List V → Hp → VK → Prop := fun xs H Q => (∃ p ys, xs = [.ref p] ∧ (SqL K H p ys ∨ SqT K H p ys) ∧ Q (.int ys.length) H) ∨ ((∃ z, xs = [.str z] ∧ z.length ≤ sizeLine ∧ Q (.int z.length) H) ∨ ∃ x n, xs = [x] ∧ LenV K x H n ∧ Q (.int n) H)
def uList (K : Fg) : List V → Hp → VK → Prop := fun xs H Q => ∃ p ys, xs = [.ref p] ∧ (SqL K H p ys ∨ SqT K H p ys) ∧ ∀ l, H l = none → Q (.ref l) (upd H l (.lst ys))
def uTuple (K : Fg) : List V → Hp → VK → Prop := fun xs H Q => ∃ p ys, xs = [.ref p] ∧ ((SqL K H p ys ∧ ∀ l, H l = none → Q (.ref l) (upd H l (.tup ys))) ∨ (SqT K H p ys ∧ Q (.ref p) H))
def uInt : List V → Hp → VK → Prop := fun xs H Q => (∃ i, xs = [.int i] ∧ Q (.int i) H) ∨ ∃ k, xs = [.bl k] ∧ Q (.int (if k then 1 else 0)) H
def uBool : List V → Hp → VK → Prop := fun xs H Q => (∃ i, xs = [.int i] ∧ Q (.bl (i != 0)) H) ∨ ∃ k, xs = [.bl k] ∧ Q (.bl k) H
def uMax2 : List V → Hp → VK → Prop := fun xs H Q => ∃ i j, xs = [.int i, .int j] ∧ Q (.int (if j > i then j else i)) H
section
variable {X : Cx}
theorem cl_uLen : CallR X (.builtin "len") (uLen X.K) := call_len_seq.or (call_len_str.or call_len)
theorem cl_uList : CallR X (.type "list") (uList X.K) := call_list_of
theorem cl_uTuple : CallR X (.type "tuple") (uTuple X.K) := call_tuple_of
theorem cl_uInt : CallR X (.type "int") uInt := call_int1
theorem cl_uBool : CallR X (.type "bool") uBool := call_bool1
theorem cl_uMax2 (hc : X.calm = true) : CallR X (.builtin "max") uMax2 := call_max2 hc
end
/-! ### a def, a method, a maker: what a caller asks -/
structure Cd (P : Program) (w : World) (K : Fg) (mg : Str → Option Value) (base : Heap) (k : Nat) (x : Str) (sp : Sp) (dvs : List V) : Prop where
  ex : ∃ (f : Addr) (fd : FuncData) (ps : List Str) (ds : List Value), FnOk P w K mg base (L2.CX P w) k f fd ps sp ∧ mg x = some (.ref f) ∧ PySem.W.keepIn K (.ref f) = true ∧ Binds K fd ps ds ∧ Vals dvs ds
structure Cm (P : Program) (w : World) (K : Fg) (mg : Str → Option Value) (base : Heap) (k : Nat) (C : Addr) (m : Str) (sp : Sp) (dvs : List V) : Prop where
  ex : ∃ (f : Addr) (fd : FuncData) (ps : List Str) (ds : List Value), Cls K C ∧ Meth K C m f ∧ FnOk P w K mg base (L2.CX P w) k f fd ps sp ∧ Binds K fd ps ds ∧ Vals dvs ds
structure Ck (P : Program) (w : World) (K : Fg) (mg : Str → Option Value) (base : Heap) (k : Nat) (x : Str) (C : Addr) (sp : Sp) (dvs : List V) : Prop where
  ex : ∃ (f : Addr) (fd : FuncData) (ps : List Str) (ds : List Value), Mk K C f ∧ FnOk P w K mg base (L2.CX P w) k f fd ps sp ∧ mg x = some (.ref C) ∧ Binds K fd ps ds ∧ Vals dvs ds
section
variable {X : Cx} {k j : Nat} {C : Addr} {x m : Str} {sp : Sp} {dvs : List V} {p pos apos : Pos} {e o : Expr} {es : List Expr} {ta : TE} {t : TA} {E : XK}
theorem pe_cd (c : Cd X.prog X.w X.K X.mg X.base k x sp dvs) (hr : Room j X.A) (hk : k ≤ j) (hx : Passes (L2.CX X.prog X.w) X E) (hg : Gl X x) (ha : PA X (e :: es) t)
    (hdb : (x == ("__debug__" : Str)) = false := by decide) (he : starEach (e :: es) X.env = (false, eval e X.env) :: starEach es X.env := by rfl) (hpl : (backTo pos (starEach es X.env)).any (·.1) = false := by rfl) :
    PE X (.Call (.Name x p) (e :: es) [] pos) (tCall sp dvs E t) := by
  obtain ⟨f, fd, ps, ds, F, hm, kp, b, d⟩ := c.ex
  exact pe_call F (hr.mono hk) hg hm kp b d hx ha hdb he hpl
theorem pe_cd0 (c : Cd X.prog X.w X.K X.mg X.base k x sp dvs) (hr : Room j X.A) (hk : k ≤ j) (hx : Passes (L2.CX X.prog X.w) X E) (hg : Gl X x) (hdb : (x == ("__debug__" : Str)) = false := by decide) :
    PE X (.Call (.Name x p) [] [] pos) (tCall sp dvs E tNil) := by
  obtain ⟨f, fd, ps, ds, F, hm, kp, b, d⟩ := c.ex
  exact pe_call0 F (hr.mono hk) hg hm kp b d hx hdb
theorem pe_ck (c : Ck X.prog X.w X.K X.mg X.base k x C sp dvs) (hr : Room j X.A) (hk : k + 1 ≤ j) (hx : Passes (L2.CX X.prog X.w) X E) (hg : Gl X x) (ha : PA X (e :: es) t)
    (hdb : (x == ("__debug__" : Str)) = false := by decide) (he : starEach (e :: es) X.env = (false, eval e X.env) :: starEach es X.env := by rfl) (hpl : (backTo pos (starEach es X.env)).any (·.1) = false := by rfl) :
    PE X (.Call (.Name x p) (e :: es) [] pos) (tMake C sp dvs E t) := by
  obtain ⟨f, fd, ps, ds, M, F, hm, b, d⟩ := c.ex
  exact pe_make M F (hr.mono hk) hg hm b d hx ha hdb he hpl
theorem pe_cm {pl : Sem Bool} (c : Cm X.prog X.w X.K X.mg X.base k C m sp dvs) (hr : Room j X.A) (hk : k ≤ j) (hx : Passes (L2.CX X.prog X.w) X E) (he : PE X o ta) (ha : PA X (e :: es) t)
    (hst : starEach (e :: es) X.env = (false, eval e X.env) :: starEach es X.env := by rfl) (hpl : (backTo pos (starEach es X.env)).any (·.1) = false := by rfl)
    (ht : eval (.Call (.Attribute o m apos) (e :: es) [] pos) X.env = (do
      let ov ← eval o X.env
      standAt apos.atName
      let (f, first) ← holding [ov] (getMethod ov m pl)
      callWith pos f first (backTo pos (starEach (e :: es) X.env)) (backToKw pos (keywordEach [] X.env))) := by rfl) :
    PE X (.Call (.Attribute o m apos) (e :: es) [] pos) (tMeth C m sp dvs E ta t) := by
  obtain ⟨f, fd, ps, ds, hc, hm, F, b, d⟩ := c.ex
  exact pe_meth (pl := pl) he hc hm F (hr.mono hk) b d hx ha hst hpl ht
theorem pe_cm0 {pl : Sem Bool} (c : Cm X.prog X.w X.K X.mg X.base k C m sp dvs) (hr : Room j X.A) (hk : k ≤ j) (hx : Passes (L2.CX X.prog X.w) X E) (he : PE X o ta)
    (ht : eval (.Call (.Attribute o m apos) [] [] pos) X.env = (do
      let ov ← eval o X.env
      standAt apos.atName
      let (f, first) ← holding [ov] (getMethod ov m pl)
      callWith pos f first (backTo pos (starEach [] X.env)) (backToKw pos (keywordEach [] X.env))) := by rfl) :
    PE X (.Call (.Attribute o m apos) [] [] pos) (tMeth C m sp dvs E ta tNil) := by
  obtain ⟨f, fd, ps, ds, hc, hm, F, b, d⟩ := c.ex
  exact pe_meth0 (pl := pl) he hc hm F (hr.mono hk) b d hx ht
theorem passE0 : Passes (L2.CX X.prog X.w) X (fun _ _ _ => False) := fun _ _ _ _ _ _ _ h => by
  obtain ⟨_, _, _, _, _, _, _, _, _, _, _, _, z⟩ := h
  exact z.elim
end
end Lp

set_option Elab.async false
set_option linter.all false
set_option maxRecDepth 100000
set_option maxHeartbeats 4000000
/-! L4: more rules whatever the operands are: enumerate of a tuple, slices, what is walked; small names for premises. Own work. -/
namespace PySem
set_option maxHeartbeats 1000000 in
theorem lp_meets_enum1 {v : Value} {o : Obj} {H : Heap → Prop} (B : Begins v o H) :
    Meets (Builtin.«enumerate.__new__» ⟨[.type "enumerate", v], []⟩) (fun _ R s => H s.heap ∧
      R (.ok (.ret (.ref (s.heap.push o).objs.size))) { s with heap := (s.heap.push o).push { cls := .type "enumerate", data := .fields #[.none, .bool false, .ref s.heap.objs.size, rawInt 0, .none, .none] } }) :=
  .of_wp fun prog w A R s h => by
    obtain ⟨hp, g, d, tk, os⟩ := s; obtain ⟨h1, h⟩ := h
    have hsub := sub_enumerate
    have q1 : ∀ {A' : Around} {E : Value → Shared → Prop} {Q : Value → Shared → Prop}, Q (.ref hp.objs.size) ⟨hp.push o, g, d, tk, os⟩ → wpAny (model prog w) A' (pyIter v) Q E ⟨hp, g, d, tk, os⟩ :=
      fun q => B.iter prog w _ _ ⟨hp, g, d, tk, os⟩ _ h1 q
    wp_walk using q1
    refine wpAny_stack_any fun st => wpAny_pure ?_
    split
    · rename_i c _ _ _ _ _
      cases (c == Value.type "enumerate")
      · wp_walk using q1
        exact ⟨_, rfl, h⟩
      · wp_walk using q1
        exact ⟨_, rfl, h⟩
    · wp_walk using q1
      exact ⟨_, rfl, h⟩
section
variable {prog : Program} {w : World} {A : Around} {E : Value → Shared → Prop} {s : Shared}
theorem lp_enum_begins {v : Value} {o : Obj} {H : Heap → Prop} {Q : Value → Shared → Prop} (B : Begins v o H) (h1 : H s.heap)
    (h : ∀ h', IsEnum h' (s.heap.objs.size + 1) s.heap.objs.size 0 .none → h'.get? s.heap.objs.size = some o → h'.objs.size = s.heap.objs.size + 2 →
      (∀ b o, s.heap.get? b = some o → h'.get? b = some o) → Q (.ref (s.heap.objs.size + 1)) { s with heap := h' }) :
    wpAny (model prog w) A (call (.type "enumerate") [v]) Q E s := by
  refine callType_new F.called_enumerate (by decide) (F.typeCall_enumerate_1 _) (F.newCall_enumerate_1 _) (fun obj => F.args_object_init_2 obj _) F.entry_enumerate_new
    (lp_meets_enum1 B) ⟨h1, ?_⟩
  have hz : (s.heap.push o).objs.size = s.heap.objs.size + 1 := Heap.size_push ..
  show _ ∧ _
  rw [hz]
  have he : IsEnum ((s.heap.push o).push { cls := .type "enumerate", data := .fields #[.none, .bool false, .ref s.heap.objs.size, rawInt 0, .none, .none] }) (s.heap.objs.size + 1) s.heap.objs.size 0 .none := by
    have := Heap.get?_push_size (s.heap.push o) (o := { cls := .type "enumerate", data := .fields #[.none, .bool false, .ref s.heap.objs.size, rawInt 0, .none, .none] }) rfl
    rw [hz] at this; exact this
  refine ⟨⟨_, he, rfl⟩, h _ he (Heap.get?_push_of_some _ (Heap.get?_push_size _ B.free)) (by rw [Heap.size_push, hz]) fun b o x => Heap.get?_push_of_some _ (Heap.get?_push_of_some _ x)⟩
end
end PySem
namespace Lp
open PySem PySem.Spec PyProof.Rows L2 LamX
/-! ### enumerate(tuple) -/
def IteT (K : Fg) (a : Addr) : It :=
  ⟨fun i H => ∃ (xs : List V) (x : V), SqT K H a xs ∧ xs[i]? = some x, fun i H v H' => ∃ T x, v = .ref T ∧ H T = none ∧ H' = upd H T (.tup [.int (i : Nat), x]) ∧ ∀ xs, SqT K H a xs → xs[i]? = some x, fun i H => ∃ xs : List V, SqT K H a xs ∧ xs.length ≤ i⟩
theorem tup_inj {X : Cx} {pins : List (Addr × Obj)} {σ : L2.St} {H : Hp} {s : Shared} {a : Addr} {xs ys : List V} (I : Inv X pins σ H s) (h1 : SqT X.K H a xs) (h2 : SqT X.K H a ys) : xs = ys := by
  first
    | exact I.tuple_inj h1 h2
    | exact I.tup_inj h1 h2
theorem turn_enumT {P : Program} {w : World} {K : Fg} {elts : List Expr} {kk : Nat} {tpos : Pos} {items : Array Value} (a e it : Addr) (hat : a ≠ it) (hae : a ≠ e) :
    Turn P w K (.Tuple elts kk tpos) (IteT K a) [e, it] e (fun i h => (∃ old, IsEnum h e it ((i : Nat) : Int) old) ∧ h.IsTupleIter it a i ∧ e ≠ it) where
  mem := by simp
  obj := fun i h st b hb => by
    obtain ⟨⟨old, he⟩, ⟨o, ho, hc, hd⟩, _⟩ := st
    have e' : b = e ∨ b = it := by simpa using hb
    rcases e' with z | z
    · rw [z]; exact ⟨_, he, fun v q => nomatch q⟩
    · rw [z]; exact ⟨o, ho, fun v q => by rw [hd] at q; cases q⟩
  keep := fun i h h' st k => let ⟨⟨old, he⟩, hi, hne⟩ := st; ⟨⟨old, k e (by simp) _ he⟩, hi.at fun o q => k it (by simp) o q, hne⟩
  item := by
    intro X hP hw hK hc i pins s σ H E I hf st hg
    subst hP hw hK
    obtain ⟨⟨old, he⟩, hit, hne⟩ := st
    obtain ⟨xs, x, hq, hx⟩ := hg
    obtain ⟨its, rv, p, hz⟩ := I.tuple hq
    obtain ⟨u, hu, ru⟩ := rv.get hx
    have hel : e < s.heap.objs.size := Heap.lt_size he
    have hil : it < s.heap.objs.size := by obtain ⟨_, q, _⟩ := hit; exact Heap.lt_size q
    have hlt : i < its.toArray.size := by
      have := (List.getElem?_eq_some_iff.mp hu).1
      simpa using this
    have ha' : X.A.in1.handled = none := I.ok.hd hc
    have D := PySem.Draws.tuple (prog := X.prog) (w := X.w) (A := X.A.in1) ha' it a hat its.toArray
    refine wpAny_pyNext_enum_itemD (fp := [it, a]) D he ⟨hit, p⟩ hlt hne (by simp; exact ⟨hne, Ne.symm hae⟩) fun x' h' tk hP' ho hst' hT hsz hk => ?_
    have ex : x' = u := by
      have e1 : its.toArray[i]? = some u := by simpa using hu
      rw [e1] at hP'
      exact (Option.some.inj hP').symm
    subst ex
    refine ⟨_, rfl, wpAny_letOwnedTupleGo_enum (s := { s with heap := h', toks := tk + 1 }) ho fun h'' he' sb => ?_⟩
    have hT2 : h''.get? s.heap.objs.size = some { cls := .type "tuple", data := .seq #[.int i tk, x'] } := (sb.2 _ (Nat.ne_of_gt hel)).trans hT
    have new : ObjOk X.prog X.w (upd H s.heap.objs.size (.tup [.int (i : Nat), x])) h'' s.heap.objs.size (.tup [.int (i : Nat), x]) :=
      ⟨by show 2 ≤ sizeLine; decide, [.int i tk, x'], .cons ⟨_, rfl⟩ (.cons ru .nil), ⟨_, hT2, rfl, _, rfl⟩⟩
    have I1 : Inv X pins σ (upd H s.heap.objs.size (.tup [.int (i : Nat), x])) { s with heap := h'', toks := tk + 1 } :=
      I.turnedNew (ch := [e, it]) (fun b ob hb q => (sb.2 b (fun z => hb (by simp [z]))).trans (hk b ob (fun z => hb (by simp [z])) (fun z => hb (by simp [z])) q)) hf (Nat.le_refl _) new
    refine ⟨.ref s.heap.objs.size, _, I1, rfl, ⟨_, x, rfl, I.hok.fresh (Nat.le_refl _), rfl, fun ys hy => by rw [tup_inj I hy hq]; exact hx⟩, ⟨⟨x', ?_⟩, hst'.1.at fun o q => (sb.2 it (Ne.symm hne)).trans q, hne⟩, fun b hb => ?_⟩
    · have e1 : ((i + 1 : Nat) : Int) = (i : Int) + 1 := by omega
      rw [e1]; exact he'
    · have hb' : b < s.heap.objs.size := by
        have e' : b = e ∨ b = it := by simpa using hb
        rcases e' with z | z
        · rw [z]; exact hel
        · rw [z]; exact hil
      rw [upd_ne (Nat.ne_of_lt hb')]
      exact (hf b hb).1
  done := by
    intro X hP hw hK hc i pins s σ H E I hf st hg
    subst hP hw hK
    obtain ⟨⟨old, he⟩, hit, hne⟩ := st
    obtain ⟨xs, hq, hx⟩ := hg
    obtain ⟨its, rv, p, hz⟩ := I.tuple hq
    obtain ⟨f0, f1, f2, f3, f4, f5⟩ := hf it (by simp)
    have hl := rv.length
    have hT : s.TypeIs (.ref e) "enumerate" := ⟨_, he, rfl⟩
    have ha' : X.A.in1.handled = none := I.ok.hd hc
    unfold pyNext
    refine wpAny_bind (wpAny_attempt (wpAny_callSpecial?_slot (name := Str.ofString "__next__") hT F.slot_enumerate_next
      (wpAny_call_entry F.slot_enumerate_next hT F.entry_enumerate_next ?_ (F.args_enumerate_next_1 _))))
    show wpAny _ _ (field (.ref e) 2 >>= _) _ _ _
    refine wpAny_bind (wpAny_field he rfl (x := .ref it) rfl ?_)
    refine wpAny_bind (wpAny_nextOf_tuple_end ha' hit p (by simp; omega) fun h' x he' hx' => ?_)
    obtain ⟨o, ho, hcl⟩ := hx'
    refine wpAny_bind (wpAny_isInstance (T := "StopIteration") (b := true) ⟨o, ho, hcl⟩ isSubtype_stop ?_)
    exact wpAny_pure ⟨rfl, I.turned (t' := s.toks) (fun b o hb q => he' b o hb q) f0 f1 f3 f4 f5⟩
  self := fun A i s Q E st h => let ⟨⟨_, he⟩, _⟩ := st; wpAny_pyIter_enum he h

def iEnumU (K : Fg) (ta : TA) : TI := fun σ H R => ta σ H fun vs H1 => ∃ a xs, vs = [.ref a] ∧ ((SqL K H1 a xs ∧ R (Ite K a) H1) ∨ (SqT K H1 a xs ∧ R (IteT K a) H1))
section
variable {X : Cx}
theorem pi_enumU {e : Expr} {ta : TA} {p pos tpos : Pos} {elts : List Expr} {kk : Nat} (hg : Gl X "enumerate") (hm : X.mg "enumerate" = none) (ha : PA X [e] ta) (hs : starEach [e] X.env = [(false, eval e X.env)] := by rfl) :
    PI X (.Tuple elts kk tpos) (.Call (.Name "enumerate" p) [e] [] pos) (iEnumU X.K ta) := by
  refine ⟨fun pins s σ H R I h => ?_⟩
  refine Call_ (ld_blt I hg hm boot_enumerate (PyProof.Rows.callWith_type1 (thn (ha.run pos pins s σ H _ I h) fun us s1 ⟨vs, H1, I1, r1, q1⟩ => ?_) hs rfl))
  obtain ⟨a, xs, ex, q1⟩ := q1
  subst ex
  cases r1 with
  | cons r rr =>
    cases rr
    cases r
    have far : ∀ {b : Addr}, (b = s1.heap.objs.size + 1 ∨ b = s1.heap.objs.size) → s1.heap.objs.size ≤ b := fun {b} e' => by
      rcases e' with z | z
      · rw [z]; exact Nat.le_add_right _ _
      · rw [z]; exact Nat.le_refl _
    rcases q1 with ⟨hq, q⟩ | ⟨hq, q⟩
    · obtain ⟨its, rv, p', hz⟩ := I1.list hq
      refine call_enumerate_list p'.isList fun h' he hit hsz hk => wpAny_pyIter_enum he ?_
      have I2 : Inv X pins σ H1 { s1 with heap := h' } := I1.kept (t' := s1.toks) hk
      refine ⟨s1.heap.objs.size + 1, [s1.heap.objs.size + 1, s1.heap.objs.size], _, _, H1, rfl, I2, turn_enum a (s1.heap.objs.size + 1) s1.heap.objs.size, ⟨⟨.none, he⟩, hit, Nat.succ_ne_self _⟩, fun b hb => ?_, q⟩
      have e' : b = s1.heap.objs.size + 1 ∨ b = s1.heap.objs.size := by simpa using hb
      exact I1.fpOk (far e') (I1.hok.fresh (far e'))
    · obtain ⟨its, rv, p', hz⟩ := I1.tuple hq
      have hlt : a < s1.heap.objs.size := p'.lt
      refine lp_enum_begins (begins_tuple a its.toArray) p' fun h' he hit hsz hk => wpAny_pyIter_enum he ?_
      have I2 : Inv X pins σ H1 { s1 with heap := h' } := I1.kept (t' := s1.toks) hk
      refine ⟨s1.heap.objs.size + 1, [s1.heap.objs.size + 1, s1.heap.objs.size], _, _, H1, rfl, I2, turn_enumT (items := its.toArray) a (s1.heap.objs.size + 1) s1.heap.objs.size (Nat.ne_of_lt hlt) (Nat.ne_of_lt (Nat.lt_succ_of_lt hlt)), ⟨⟨.none, he⟩, ⟨_, hit, rfl, rfl⟩, Nat.succ_ne_self _⟩, fun b hb => ?_, q⟩
      have e' : b = s1.heap.objs.size + 1 ∨ b = s1.heap.objs.size := by simpa using hb
      exact I1.fpOk (far e') (I1.hok.fresh (far e'))
/-! ### slices of lists, tuples, texts -/
theorem SlR.or {r r' : V → Option Int → Option Int → Hp → VK → Prop} (h : SlR X r) (h' : SlR X r') : SlR X (fun x l u H Q => r x l u H Q ∨ r' x l u H Q) := by
  unfold SlR at *
  intros
  rename_i q
  rcases q with q | q
  · apply h <;> assumption
  · apply h' <;> assumption
end
def uSl (K : Fg) : V → Option Int → Option Int → Hp → VK → Prop := fun x l u H Q => rSlL K x l u H Q ∨ ((rSlA K x l u H Q) ∨ C8.rSlX x l u H Q)
section
variable {X : Cx}
theorem sl_u : SlR X (uSl X.K) := SlR.or sl_list (SlR.or sl_tupA C8.sl_txt)
/-! ### what is walked: a list, a tuple, a text -/
def iU (K : Fg) (te : TE) : TI := fun σ H R => te σ H fun v H1 => (∃ a, v = .ref a ∧ (((∃ xs, SqL K H1 a xs) ∧ R (Itl K a) H1) ∨ ((∃ xs, SqT K H1 a xs) ∧ R (Itt K a) H1))) ∨ ∃ x, v = .str x ∧ R (Its x) H1
theorem pi_u {tg e : Expr} {te : TE} (he : PE X e te) : PI X tg e (iU X.K te) := by
  refine ⟨fun pins s σ H R I h => ?_⟩
  refine thn (he.run pins s σ H _ I h) fun u s1 ⟨x, H1, I1, rx, q⟩ => ?_
  rcases q with ⟨a, ex, ⟨hq, q⟩ | ⟨hq, q⟩⟩ | ⟨y, ey, q⟩
  · subst ex
    obtain ⟨xs, hx⟩ := hq
    obtain rfl : u = Value.ref a := rx
    obtain ⟨its, rv, p, hz⟩ := I1.list hx
    refine wpAny_pyIter_list p.isList ?_
    refine ⟨s1.heap.objs.size, [s1.heap.objs.size], _, _, H1, rfl, I1.kept (t' := s1.toks) fun b o e => Heap.get?_push_of_some _ e, turn_list a _, ⟨_, Heap.get?_push_size _ rfl, rfl, rfl⟩, fun b hb => ?_, q⟩
    have e : b = s1.heap.objs.size := by simpa using hb
    subst e
    exact I1.fpOk (Nat.le_refl _) (I1.hok.fresh (Nat.le_refl _))
  · subst ex
    obtain ⟨xs, hx⟩ := hq
    obtain rfl : u = Value.ref a := rx
    obtain ⟨its, rv, p, hz⟩ := I1.tuple hx
    refine wpAny_pyIter_tuple (show s1.heap.IsTuple a its.toArray from p) ?_
    refine ⟨s1.heap.objs.size, [s1.heap.objs.size], _, _, H1, rfl, I1.kept (t' := s1.toks) fun b o e => Heap.get?_push_of_some _ e, turn_tuple a _, ⟨_, Heap.get?_push_size _ rfl, rfl, rfl⟩, fun b hb => ?_, q⟩
    have e : b = s1.heap.objs.size := by simpa using hb
    subst e
    exact I1.fpOk (Nat.le_refl _) (I1.hok.fresh (Nat.le_refl _))
  · subst ey
    obtain ⟨t, rfl⟩ := (show ∃ t, u = Value.str y t from rx)
    cases ha : y.cps.all (· < 128)
    · exact wpAny_pyIter_wide ha (pi_one (tk := s1.toks) I1 _ (turn_str _ y t "str_iterator" (.inr rfl)) ⟨_, Heap.get?_push_size _ rfl, rfl, rfl⟩ q)
    · exact wpAny_pyIter_ascii ha (pi_one (tk := s1.toks) I1 _ (turn_str _ y t "str_ascii_iterator" (.inl rfl)) ⟨_, Heap.get?_push_size _ rfl, rfl, rfl⟩ q)
end
/-! ### small names -/
def uStr : List V → Hp → VK → Prop := fun xs H Q => (∃ a, xs = [.str a] ∧ Q (.str a) H) ∨ ∃ i, xs = [.int i] ∧ i.natAbs.log2 < 1920 ∧ Q (.str (toString i)) H
section
variable {X : Cx}
theorem cl_uStr : CallR X (.type "str") uStr := CallR.or SkE.call_str_str call_str_int
theorem pg_n (i : Nat) {x : Str} {pos : Pos} (hN : X.N.Nodup) (hi : X.N[i]? = some x := by rfl) (hx : Loc X.env.scope x := by first | exact Or.inl rfl | exact Or.inr rfl)
    (hf : X.fn x = true ∨ X.env.scope.names.lookup x = some .local := by first | exact .inl rfl | exact .inr rfl) : PG X (.Name x pos) (gName i) := pg_name hN hi hx hf
theorem ps_s (i : Nat) {x : Str} {e : Expr} {te : TE} {pos pos' : Pos} (hN : X.N.Nodup) (he : PE X e te) (hi : X.N[i]? = some x := by rfl) (hx : Loc X.env.scope x := by first | exact Or.inl rfl | exact Or.inr rfl)
    (hs : swapsWith e (some (.Name x pos')) pos.line X.env = pure false := by rfl) (hf : X.fn x = true ∨ X.env.scope.names.lookup x = some .local := by first | exact .inl rfl | exact .inr rfl) :
    PS X (.Assign [.Name x pos'] e pos) (tAsg te (gName i)) := ps_set hN hi hx he hs hf
end
theorem bt_str : bootBuiltins "str" = some (.type "str") := by decide +kernel
theorem bt_int : bootBuiltins "int" = some (.type "int") := by decide +kernel
theorem bt_bool : bootBuiltins "bool" = some (.type "bool") := by decide +kernel
theorem bt_list : bootBuiltins "list" = some (.type "list") := by decide +kernel
theorem bt_tuple : bootBuiltins "tuple" = some (.type "tuple") := by decide +kernel
theorem bt_dict : bootBuiltins "dict" = some (.type "dict") := by decide +kernel
theorem bb_len : bootBuiltins "len" = some (.builtin "len") := by decide +kernel
theorem bb_isinstance : bootBuiltins "isinstance" = some (.builtin "isinstance") := by decide +kernel
theorem bb_max : bootBuiltins "max" = some (.builtin "max") := by decide +kernel
theorem bb_min : bootBuiltins "min" = some (.builtin "min") := by decide +kernel
theorem bb_sum : bootBuiltins "sum" = some (.builtin "sum") := by decide +kernel
theorem bb_all : bootBuiltins "all" = some (.builtin "all") := by decide +kernel
theorem bb_any : bootBuiltins "any" = some (.builtin "any") := by decide +kernel
theorem bb_sorted : bootBuiltins "sorted" = some (.builtin "sorted") := by decide +kernel
/-- an own error is made: what a caller of its class asks -/
def tRz (C : Addr) (sp : Sp) (E : XK) (ta : TA) : TS := fun _ σ H => tMkO C sp [] ta σ H fun cls d H' => E cls d H'
structure Cx1 (P : Program) (w : World) (K : Fg) (mg : Str → Option Value) (base : Heap) (k : Nat) (x : Str) (C : Addr) (sp : Sp) : Prop where
  ex : ∃ (fI : Addr) (fd : FuncData) (ps : List Str), OexC K C ∧ PySem.W.findIn K (.ref C) "__init__" = some (some (.ref fI)) ∧ PySem.W.typeIn K (.ref fI) = some (.type "function") ∧
    FnOk P w K mg base (L2.CX P w) k fI fd ps sp ∧ Binds K fd ps [] ∧ mg x = some (.ref C)
section
variable {X : Cx} {x : Str} {C : Addr} {k j : Nat} {sp : Sp} {e : Expr} {es : List Expr} {ta : TA} {p pos : Pos}
theorem pmk_x (c : Cx1 X.prog X.w X.K X.mg X.base k x C sp) (hr : Room j X.A) (hk : k + 1 ≤ j) (hg : Gl X x) (ha : PA X (e :: es) ta)
    (hdb : (x == ("__debug__" : Str)) = false := by decide) (he : starEach (e :: es) X.env = (false, eval e X.env) :: starEach es X.env := by rfl) (hpl : (backTo pos (starEach es X.env)).any (·.1) = false := by rfl) :
    PMk X (.Call (.Name x p) (e :: es) [] pos) (tMkO C sp [] ta) := by
  obtain ⟨fI, fd, ps, T, iC, tI, F, b, hm⟩ := c.ex
  exact pmk_oex T iC tI F (hr.mono hk) b .nil passE0 hg hm ha hdb he hpl
end
/-- an own error's __init__: it calls its base's, then keeps what it got in a field -/
def spX (C : Addr) (f : Str) : Sp := fun vs H Q _ => ∃ (a : Addr) (v : V), vs = [.ref a, v] ∧ H a = some (exo a C none) ∧ ∀ dx, H dx = none → dx ≠ a → Q .non (upd (upd H dx (exd dx [(f, v)])) a (exo a C (some dx)))
/-- what comes of raise X(v), behind v -/
theorem rz_k {C : Addr} {f : Str} {E : XK} {v : V} {H1 : Hp} (h : ∀ d, H1 d = none → E (.ref C) (some d) (upd H1 d (.xd [(f, v)]))) :
    [v].length ≤ 1000 ∧ ∀ a, H1 a = none → spX C f (.ref a :: ([v] ++ [])) (upd H1 a (exo a C none))
      (fun v' H2 => v' = .non ∧ ∃ (d : Addr) (fs : List (Str × V)), H2 a = some (exo a C (some d)) ∧ H2 d = some (exd d fs) ∧ H1 d = none ∧ E (.ref C) (some d) (upd (del H2 a) d (.xd fs))) (fun _ _ _ => False) := by
  refine ⟨by show 1 ≤ 1000; decide, fun a ha => ⟨a, v, rfl, upd_same, fun dx hd hne => ⟨rfl, dx, [(f, v)], upd_same, by rw [upd_ne hne, upd_same], ?_, ?_⟩⟩⟩
  · rw [upd_ne hne] at hd
    exact hd
  · have hd1 : H1 dx = none := by rw [upd_ne hne] at hd; exact hd
    have e : upd (del (upd (upd (upd H1 a (exo a C none)) dx (exd dx [(f, v)])) a (exo a C (some dx))) a) dx (.xd [(f, v)]) = upd H1 dx (.xd [(f, v)]) := by
      funext b
      by_cases hb : b = dx
      · rw [hb, upd_same, upd_same]
      · rw [upd_ne hb, upd_ne hb]
        by_cases hba : b = a
        · rw [hba, del_same, ha]
        · rw [del_ne hba, upd_ne hba, upd_ne hb, upd_ne hba]
    rw [e]
    exact h dx hd1
end Lp

set_option Elab.async false
set_option linter.all false
set_option maxRecDepth 100000
set_option maxHeartbeats 4000000
/-! L5: readings over data alone. A local holds data, or a list of its own that the def fills, or the jar of the draws; what an expression gives, what a statement comes to. Own work. -/
namespace Lp
open PySem PySem.Spec PyProof.Rows L2 LamX
/-- the jar of the draws: a list of three whole numbers -/
def JarOk (H : Hp) (j : Addr) : Prop := ∃ a b c : Int, H j = some (.lst [.int a, .int b, .int c]) ∧ 0 ≤ b ∧ b < 2147483647
/-- what a local holds -/
inductive Ent where
  | emp | val (d : Dt) | own (p : Addr) (ds : List Dt) | owk (p : Addr) (kvs : List (Key × Dt)) | owo (p C dx : Addr) (l : List (Str × Dt)) | jar (j : Addr)
def ownA : Ent → List Addr
  | .own p _ => [p]
  | .owk p _ => [p]
  | .owo p _ _ _ => [p]
  | _ => []
def owned (Γ : List Ent) : List Addr := Γ.flatMap ownA
abbrev Ad := Addr → Prop
/-- what may be changed: S0, and the lists of the def's own -/
def Sx (S0 : Ad) (Γ : List Ent) : Ad := fun a => S0 a ∨ a ∈ owned Γ
def At (K : Fg) (J S : Ad) (H : Hp) (o : Option V) (e : Ent) : Prop := match e with
  | .emp => True
  | .val d => ∃ v, o = some v ∧ Rep K S H v d
  | .own p ds => o = some (.ref p) ∧ ∃ xs, H p = some (.lst xs) ∧ RepL K S H xs ds
  | .owk p kvs => o = some (.ref p) ∧ ∃ xs, H p = some (.dK xs) ∧ RepK K S H xs kvs
  | .owo p C dx l => o = some (.ref p) ∧ ∃ xs, H p = some (.ins C dx xs) ∧ RepF K S H xs l
  | .jar j => o = some (.ref j) ∧ J j
abbrev Tbl := List (Addr × Str)
/-- S0: what no data meet; J: the part of it that may be changed (the jar) -/
structure Rel (K : Fg) (T : Tbl) (S0 J : Ad) (Γ : List Ent) (σ : L2.St) (H : Hp) : Prop where
  js : ∀ a, J a → S0 a
  jr : ∀ a, J a → JarOk H a
  wf : ∀ a, S0 a → ¬ Fre H a
  tb : Tabs T H
  nd : (owned Γ).Nodup
  os : ∀ p ∈ owned Γ, ¬ S0 p
  len : σ.length = Γ.length
  at_ : ∀ (i : Nat) (o : Option V) (e : Ent), σ[i]? = some o → Γ[i]? = some e → At K J (Sx S0 Γ) H o e
/-- a step: all but S0 and the own lists stands, own lists come anew or were there -/
structure Go (T : Tbl) (J : Ad) (Γ : List Ent) (H : Hp) (Γ' : List Ent) (H' : Hp) : Prop where
  nx : Nx T (Sx J Γ) H H'
  own : ∀ p ∈ owned Γ', p ∈ owned Γ ∨ Fre H p
section
variable {K : Fg} {T : Tbl} {S0 J : Ad} {Γ Γ1 Γ2 : List Ent} {σ : L2.St} {H H1 H2 : Hp}
theorem Go.refl : Go T J Γ H Γ H := ⟨.refl, fun _ h => .inl h⟩
theorem Go.trans (a : Go T J Γ H Γ1 H1) (b : Go T J Γ1 H1 Γ2 H2) : Go T J Γ H Γ2 H2 := by
  refine ⟨⟨fun c o e n s => ?_, fun c e => a.nx.dom c (b.nx.dom c e), fun t => b.nx.tab (a.nx.tab t)⟩, fun p hp => ?_⟩
  · refine b.nx.le c o (a.nx.le c o e n s) n fun z => ?_
    rcases z with z | z
    · exact s (.inl z)
    · rcases a.own c z with q | q
      · exact s (.inr q)
      · exact q o e n
  · rcases b.own p hp with q | q
    · exact a.own p q
    · exact .inr (a.nx.dom p q)
theorem mem_owned {i : Nat} {p : Addr} {ds : List Dt} (h : Γ[i]? = some (.own p ds)) : p ∈ owned Γ :=
  List.mem_flatMap.mpr ⟨_, List.mem_of_getElem? h, List.mem_singleton.mpr rfl⟩
theorem mem_ownedK {i : Nat} {p : Addr} {ds : List (Key × Dt)} (h : Γ[i]? = some (.owk p ds)) : p ∈ owned Γ :=
  List.mem_flatMap.mpr ⟨_, List.mem_of_getElem? h, List.mem_singleton.mpr rfl⟩
theorem mem_ownedO {i : Nat} {p C dx : Addr} {l : List (Str × Dt)} (h : Γ[i]? = some (.owo p C dx l)) : p ∈ owned Γ :=
  List.mem_flatMap.mpr ⟨_, List.mem_of_getElem? h, List.mem_singleton.mpr rfl⟩
/-- the heap goes on, nothing that is known changes -/
theorem JarOk.nx {S : Ad} {j : Addr} (h : JarOk H j) (n : Nx T S H H1) (s : ¬ S j) : JarOk H1 j := by
  obtain ⟨a, b, c, e, q⟩ := h
  exact ⟨a, b, c, n.le _ _ e noT_lst s, q⟩
theorem Rel.nx (r : Rel K T S0 J Γ σ H) (n : Nx T (fun _ => False) H H1) : Rel K T S0 J Γ σ H1 := by
  refine ⟨r.js, fun a h => (r.jr a h).nx n id, fun a h z => r.wf a h (n.dom a z), n.tab r.tb, r.nd, r.os, r.len, fun i o e h1 h2 => ?_⟩
  have q := r.at_ i o e h1 h2
  have m : Nx T (Sx S0 Γ) H H1 := n.mono fun _ z => z.elim
  cases e with
  | emp => trivial
  | val d => obtain ⟨v, e1, e2⟩ := q; exact ⟨v, e1, e2.nx m⟩
  | own p ds => obtain ⟨e1, xs, e2, e3⟩ := q; exact ⟨e1, xs, n.le _ _ e2 noT_lst id, e3.nx m⟩
  | owk p ds => obtain ⟨e1, xs, e2, e3⟩ := q; exact ⟨e1, xs, n.le _ _ e2 noT_dK id, e3.nx m⟩
  | owo p C dx ds => obtain ⟨e1, xs, e2, e3⟩ := q; exact ⟨e1, xs, n.le _ _ e2 noT_ins id, e3.nx m⟩
  | jar j => exact q
/-- .. but at a jar, which is one still -/
theorem Rel.nxJ {j : Addr} (r : Rel K T S0 J Γ σ H) (hj : J j) (n : Nx T (fun a => a = j) H H1) (ok : JarOk H1 j) : Rel K T S0 J Γ σ H1 := by
  refine ⟨r.js, fun a h => ?_, fun a h z => r.wf a h (n.dom a z), n.tab r.tb, r.nd, r.os, r.len, fun i o e h1 h2 => ?_⟩
  · by_cases z : a = j
    · rw [z]; exact ok
    · exact (r.jr a h).nx n z
  have q := r.at_ i o e h1 h2
  have m : Nx T (Sx S0 Γ) H H1 := n.mono fun b z => by rw [z]; exact .inl (r.js _ hj)
  cases e with
  | emp => trivial
  | val d => obtain ⟨v, e1, e2⟩ := q; exact ⟨v, e1, e2.nx m⟩
  | own p ds =>
    obtain ⟨e1, xs, e2, e3⟩ := q
    exact ⟨e1, xs, n.le _ _ e2 noT_lst (fun z => r.os p (mem_owned h2) (by rw [z]; exact r.js _ hj)), e3.nx m⟩
  | owk p ds =>
    obtain ⟨e1, xs, e2, e3⟩ := q
    exact ⟨e1, xs, n.le _ _ e2 noT_dK (fun z => r.os p (mem_ownedK h2) (by rw [z]; exact r.js _ hj)), e3.nx m⟩
  | owo p C dx ds =>
    obtain ⟨e1, xs, e2, e3⟩ := q
    exact ⟨e1, xs, n.le _ _ e2 noT_ins (fun z => r.os p (mem_ownedO h2) (by rw [z]; exact r.js _ hj)), e3.nx m⟩
  | jar k => exact q
theorem Rel.get {i : Nat} {d : Dt} (r : Rel K T S0 J Γ σ H) (h : Γ[i]? = some (.val d)) : ∃ v, σ[i]? = some (some v) ∧ Rep K (Sx S0 Γ) H v d := by
  have hl := (List.getElem?_eq_some_iff.mp h).1
  have hs : i < σ.length := by rw [r.len]; exact hl
  obtain ⟨v, e1, e2⟩ := r.at_ i σ[i] _ (List.getElem?_eq_getElem hs) h
  exact ⟨v, by rw [List.getElem?_eq_getElem hs, e1], e2⟩
theorem Rel.getO {i : Nat} {p : Addr} {ds : List Dt} (r : Rel K T S0 J Γ σ H) (h : Γ[i]? = some (.own p ds)) : σ[i]? = some (some (.ref p)) ∧ ∃ xs, H p = some (.lst xs) ∧ RepL K (Sx S0 Γ) H xs ds := by
  have hl := (List.getElem?_eq_some_iff.mp h).1
  have hs : i < σ.length := by rw [r.len]; exact hl
  obtain ⟨e1, e2⟩ := r.at_ i σ[i] _ (List.getElem?_eq_getElem hs) h
  exact ⟨by rw [List.getElem?_eq_getElem hs, e1], e2⟩
theorem Rel.getK {i : Nat} {p : Addr} {ds : List (Key × Dt)} (r : Rel K T S0 J Γ σ H) (h : Γ[i]? = some (.owk p ds)) : σ[i]? = some (some (.ref p)) ∧ ∃ xs, H p = some (.dK xs) ∧ RepK K (Sx S0 Γ) H xs ds := by
  have hl := (List.getElem?_eq_some_iff.mp h).1
  have hs : i < σ.length := by rw [r.len]; exact hl
  obtain ⟨e1, e2⟩ := r.at_ i σ[i] _ (List.getElem?_eq_getElem hs) h
  exact ⟨by rw [List.getElem?_eq_getElem hs, e1], e2⟩
theorem Rel.getOb {i : Nat} {p C dx : Addr} {l : List (Str × Dt)} (r : Rel K T S0 J Γ σ H) (h : Γ[i]? = some (.owo p C dx l)) : σ[i]? = some (some (.ref p)) ∧ ∃ xs, H p = some (.ins C dx xs) ∧ RepF K (Sx S0 Γ) H xs l := by
  have hl := (List.getElem?_eq_some_iff.mp h).1
  have hs : i < σ.length := by rw [r.len]; exact hl
  obtain ⟨e1, e2⟩ := r.at_ i σ[i] _ (List.getElem?_eq_getElem hs) h
  exact ⟨by rw [List.getElem?_eq_getElem hs, e1], e2⟩
theorem Rel.getJ {i : Nat} {j : Addr} (r : Rel K T S0 J Γ σ H) (h : Γ[i]? = some (.jar j)) : σ[i]? = some (some (.ref j)) ∧ J j ∧ JarOk H j := by
  have hl := (List.getElem?_eq_some_iff.mp h).1
  have hs : i < σ.length := by rw [r.len]; exact hl
  obtain ⟨e1, e2⟩ := r.at_ i σ[i] _ (List.getElem?_eq_getElem hs) h
  exact ⟨by rw [List.getElem?_eq_getElem hs, e1], e2, r.jr j e2⟩
theorem owned_set {i : Nat} {e : Ent} (Γ : List Ent) : ∀ p ∈ owned (Γ.set i e), p ∈ owned Γ ∨ p ∈ ownA e := fun p hp => by
  obtain ⟨x, hx, hp⟩ := List.mem_flatMap.mp hp
  rcases List.mem_or_eq_of_mem_set hx with h | h
  · exact .inl (List.mem_flatMap.mpr ⟨x, h, hp⟩)
  · rw [h] at hp; exact .inr hp
theorem nodup_set : ∀ {Γ : List Ent} {i : Nat} {e : Ent}, (owned Γ).Nodup → (∀ p ∈ ownA e, p ∉ owned Γ) → (ownA e).Nodup → (owned (Γ.set i e)).Nodup
  | [], _, _, h, _, _ => h
  | x :: Γ, 0, e, h, he, hn => by
    have h' : (ownA x ++ owned Γ).Nodup := h
    show (ownA e ++ owned Γ).Nodup
    refine List.nodup_append.mpr ⟨hn, (List.nodup_append.mp h').2.1, fun a ha b hb z => ?_⟩
    exact he a ha (List.mem_flatMap.mpr (by
      obtain ⟨y, hy, hb⟩ := List.mem_flatMap.mp hb
      exact ⟨y, List.mem_cons_of_mem _ hy, by rw [z]; exact hb⟩))
  | x :: Γ, i + 1, e, h, he, hn => by
    have h' : (ownA x ++ owned Γ).Nodup := h
    show (ownA x ++ owned (Γ.set i e)).Nodup
    obtain ⟨h1, h2, h3⟩ := List.nodup_append.mp h'
    have he' : ∀ p ∈ ownA e, p ∉ owned Γ := fun p hp z => he p hp (by
      obtain ⟨y, hy, hb⟩ := List.mem_flatMap.mp z
      exact List.mem_flatMap.mpr ⟨y, List.mem_cons_of_mem _ hy, hb⟩)
    refine List.nodup_append.mpr ⟨h1, nodup_set h2 he' hn, fun a ha b hb z => ?_⟩
    rcases owned_set Γ b hb with q | q
    · exact h3 a ha b q z
    · exact he b q (List.mem_flatMap.mpr ⟨x, List.mem_cons_self, by rw [← z]; exact ha⟩)
/-- slot i gets a value that stands for d -/
theorem Rel.setV {i : Nat} {v : V} {d : Dt} (r : Rel K T S0 J Γ σ H) (hv : Rep K (Sx S0 Γ) H v d) : Rel K T S0 J (Γ.set i (.val d)) (σ.set i (some v)) H := by
  have sub : ∀ b, Sx S0 (Γ.set i (.val d)) b → Sx S0 Γ b := fun b z => by
    rcases z with z | z
    · exact .inl z
    · rcases owned_set Γ b z with q | q
      · exact .inr q
      · cases q
  refine ⟨r.js, r.jr, r.wf, r.tb, nodup_set r.nd (fun p hp => by cases hp) List.nodup_nil, fun p hp => ?_, by rw [List.length_set, List.length_set]; exact r.len, fun k o e h1 h2 => ?_⟩
  · rcases owned_set Γ p hp with q | q
    · exact r.os p q
    · cases q
  · by_cases hk : k = i
    · subst hk
      have hl := (List.getElem?_eq_some_iff.mp h2).1
      rw [List.length_set] at hl
      have hs : k < σ.length := by rw [r.len]; exact hl
      rw [List.getElem?_set_self hl] at h2
      rw [List.getElem?_set_self hs] at h1
      cases h1; cases h2
      exact ⟨v, rfl, hv.sub (.of sub)⟩
    · rw [List.getElem?_set_ne (Ne.symm hk)] at h1 h2
      have q := r.at_ k o e h1 h2
      cases e with
      | emp => trivial
      | val d => obtain ⟨v, e1, e2⟩ := q; exact ⟨v, e1, e2.sub (.of sub)⟩
      | own p ds => obtain ⟨e1, xs, e2, e3⟩ := q; exact ⟨e1, xs, e2, e3.sub (.of sub)⟩
      | owk p ds => obtain ⟨e1, xs, e2, e3⟩ := q; exact ⟨e1, xs, e2, e3.sub (.of sub)⟩
      | owo p C dx ds => obtain ⟨e1, xs, e2, e3⟩ := q; exact ⟨e1, xs, e2, e3.sub (.of sub)⟩
      | jar j => exact q
/-- slot i gets a list of its own -/
theorem Rel.setO {i : Nat} {p : Addr} {xs : List V} {ds : List Dt} (r : Rel K T S0 J Γ σ H) (hp : H p = some (.lst xs)) (hx : RepL K (Sx S0 (Γ.set i (.own p ds))) H xs ds) (h1 : ¬ S0 p) (h2 : p ∉ owned Γ)
    (fr : ∀ (k : Nat) (o : Option V) (e : Ent), k ≠ i → σ[k]? = some o → Γ[k]? = some e → At K J (Sx S0 (Γ.set i (.own p ds))) H o e) : Rel K T S0 J (Γ.set i (.own p ds)) (σ.set i (some (.ref p))) H := by
  refine ⟨r.js, r.jr, r.wf, r.tb, nodup_set r.nd (fun q hq => ?_) (by simp [ownA]), fun q hq => ?_, by rw [List.length_set, List.length_set]; exact r.len, fun k o e g1 g2 => ?_⟩
  · rw [List.mem_singleton.mp hq]; exact h2
  · rcases owned_set Γ q hq with z | z
    · exact r.os q z
    · rw [List.mem_singleton.mp z]; exact h1
  · by_cases hk : k = i
    · subst hk
      have hl := (List.getElem?_eq_some_iff.mp g2).1
      rw [List.length_set] at hl
      have hs : k < σ.length := by rw [r.len]; exact hl
      rw [List.getElem?_set_self hl] at g2
      rw [List.getElem?_set_self hs] at g1
      cases g1; cases g2
      exact ⟨rfl, xs, hp, hx⟩
    · rw [List.getElem?_set_ne (Ne.symm hk)] at g1 g2
      exact fr k o e hk g1 g2
end
end Lp

set_option Elab.async false
set_option linter.all false
set_option maxRecDepth 100000
set_option maxHeartbeats 4000000
/-! L6: what an expression gives, told over data: a way backward for each reading. Own work. -/
namespace Lp
open PySem PySem.Spec PyProof.Rows L2 LamX
def Rj (S : Ad) (p : Addr) : Ad := fun a => S a ∨ a = p
theorem Rj.sub {S : Ad} {p : Addr} : ∀ b, S b → Rj S p b := fun _ h => .inl h
theorem Rj.new {S : Ad} {H : Hp} {p : Addr} (hp : Fre H p) : Sub S (Rj S p) H := ⟨fun b u hb nt nb z => by
  rcases z with z | z
  · exact nb z
  · rw [z] at hb; exact hp u hb nt⟩
/-- items do not meet what comes after them -/
theorem RepL.anew {K : Fg} {T : Tbl} {S : Ad} {H : Hp} {p : Addr} {o : HO} {xs : List V} {ds : List Dt} (r : RepL K S H xs ds) (hp : H p = none) (no : NoTbl o) : RepL K (Rj S p) (upd H p o) xs ds :=
  (r.sub (Rj.new (.of hp))).nx (Nx.new (T := T) hp no)
/-- what a raised error is: its class, its fields -/
abbrev XP := Addr → List (Str × Dt) → Prop
/-- E takes what X tells: M may have changed since H; J are jars still -/
def XOk (K : Fg) (T : Tbl) (E : XK) (X : XP) (S0 J M : Ad) (H : Hp) : Prop := ∀ (C : Addr) (fs : List (Str × Dt)) (xs : List (Str × V)) (dx : Addr) (H2 : Hp), X C fs → Nx T M H H2 → Fre H dx → H2 dx = some (.xd xs) → RepF K S0 H2 xs fs → (∀ a, J a → JarOk H2 a) → E (.ref C) (some dx) H2
theorem XOk.on {K : Fg} {T : Tbl} {E : XK} {X : XP} {S0 J M : Ad} {H H2 : Hp} (x : XOk K T E X S0 J M H) (n : Nx T M H H2) : XOk K T E X S0 J M H2 := fun C fs xs dx H3 h1 n2 h2 h3 h4 =>
  x C fs xs dx H3 h1 (n.trans n2) (n.dom _ h2) h3 h4
theorem XOk.nx {K : Fg} {T : Tbl} {E : XK} {X : XP} {S0 J : Ad} {H H2 : Hp} (x : XOk K T E X S0 J J H) (n : Nx T J H H2) : XOk K T E X S0 J J H2 := x.on n
theorem XOk.nxs {K : Fg} {T : Tbl} {E : XK} {X : XP} {S0 J : Ad} {Γ : List Ent} {H H2 : Hp} (x : XOk K T E X S0 J (Sx J Γ) H) (n : Nx T J H H2) : XOk K T E X S0 J (Sx J Γ) H2 := x.on (n.mono fun _ z => .inl z)
theorem XOk.less {K : Fg} {T : Tbl} {E : XK} {X : XP} {S0 J M M' : Ad} {H : Hp} (x : XOk K T E X S0 J M H) (h : ∀ b, M' b → M b) : XOk K T E X S0 J M' H := fun C fs xs dx H2 h1 n h2 h3 h4 => x C fs xs dx H2 h1 (n.mono h) h2 h3 h4
/-- what an expression may let out -/
theorem XOk.ex {K : Fg} {T : Tbl} {E : XK} {X : XP} {S0 J : Ad} {Γ : List Ent} {H : Hp} (x : XOk K T E X S0 J (Sx J Γ) H) : XOk K T E X S0 J J H := x.less fun _ z => .inl z
theorem XOk.go {K : Fg} {T : Tbl} {E : XK} {X : XP} {S0 J : Ad} {Γ Γ' : List Ent} {H H2 : Hp} (x : XOk K T E X S0 J (Sx J Γ) H) (g : Go T J Γ H Γ' H2) : XOk K T E X S0 J (Sx J Γ') H2 := fun C fs xs dx H3 h1 n2 h2 h3 h4 =>
  x C fs xs dx H3 h1 (Go.trans g ⟨n2, fun p hp => .inl hp⟩ : Go T J Γ H Γ' H3).nx (g.nx.dom _ h2) h3 h4
theorem XOk.none {K : Fg} {T : Tbl} {E : XK} {S0 J M : Ad} {H : Hp} : XOk K T E (fun _ _ => False) S0 J M H := fun _ _ _ _ _ h => h.elim
section
variable {K : Fg} {T : Tbl} {E : XK} {X : XP}
/-- evaluated, it gives data of which P holds -/
def EX (K : Fg) (T : Tbl) (E : XK) (X : XP) (te : TE) (Γ : List Ent) (P : Dt → Prop) : Prop := ∀ (S0 J : Ad) (σ : L2.St) (H : Hp), Rel K T S0 J Γ σ H → XOk K T E X S0 J J H → ∀ Q : VK,
  (∀ (v : V) (d : Dt) (H2 : Hp), P d → Rel K T S0 J Γ σ H2 → Nx T J H H2 → Rep K (Sx S0 Γ) H2 v d → Q v H2) → te σ H Q
/-- .. or a list of the def's own that is but read -/
def RepB (K : Fg) (J S : Ad) (H : Hp) (v : V) (d : Dt) : Prop := Rep K S H v d ∨ ∃ (a : Addr) (xs : List V) (ds : List Dt), v = .ref a ∧ d = .lst ds ∧ ¬ J a ∧ H a = some (.lst xs) ∧ RepL K S H xs ds
def EB (K : Fg) (T : Tbl) (E : XK) (X : XP) (te : TE) (Γ : List Ent) (P : Dt → Prop) : Prop := ∀ (S0 J : Ad) (σ : L2.St) (H : Hp), Rel K T S0 J Γ σ H → XOk K T E X S0 J J H → ∀ Q : VK,
  (∀ (v : V) (d : Dt) (H2 : Hp), P d → Rel K T S0 J Γ σ H2 → Nx T J H H2 → RepB K J (Sx S0 Γ) H2 v d → Q v H2) → te σ H Q
/-- a new list -/
def EL (K : Fg) (T : Tbl) (E : XK) (X : XP) (te : TE) (Γ : List Ent) (P : List Dt → Prop) : Prop := ∀ (S0 J : Ad) (σ : L2.St) (H : Hp), Rel K T S0 J Γ σ H → XOk K T E X S0 J J H → ∀ Q : VK,
  (∀ (p : Addr) (xs : List V) (ds : List Dt) (H2 : Hp), P ds → Rel K T S0 J Γ σ H2 → Nx T J H H2 → Fre H p → H2 p = some (.lst xs) → RepL K (Rj (Sx S0 Γ) p) H2 xs ds → Q (.ref p) H2) → te σ H Q
def ET (K : Fg) (T : Tbl) (E : XK) (X : XP) (tt : TT) (Γ : List Ent) (P : Bool → Prop) : Prop := ∀ (S0 J : Ad) (σ : L2.St) (H : Hp), Rel K T S0 J Γ σ H → XOk K T E X S0 J J H → ∀ Q : Bool → Hp → Prop,
  (∀ (b : Bool) (H2 : Hp), P b → Rel K T S0 J Γ σ H2 → Nx T J H H2 → Q b H2) → tt σ H Q
def EA (K : Fg) (T : Tbl) (E : XK) (X : XP) (ta : TA) (Γ : List Ent) (P : List Dt → Prop) : Prop := ∀ (S0 J : Ad) (σ : L2.St) (H : Hp), Rel K T S0 J Γ σ H → XOk K T E X S0 J J H → ∀ Q : List V → Hp → Prop,
  (∀ (vs : List V) (ds : List Dt) (H2 : Hp), P ds → Rel K T S0 J Γ σ H2 → Nx T J H H2 → RepL K (Sx S0 Γ) H2 vs ds → Q vs H2) → ta σ H Q

variable {Γ : List Ent} {P : Dt → Prop} {ta tb tc te : TE} {t u : TT}
theorem Rel.jS {S0 J : Ad} {σ : L2.St} {H H2 : Hp} (r : Rel K T S0 J Γ σ H) (n : Nx T J H H2) : Nx T (Sx S0 Γ) H H2 := n.mono fun _ z => .inl (r.js _ z)
theorem EX.imp {P' : Dt → Prop} (h : EX K T E X te Γ P) (i : ∀ d, P d → P' d) : EX K T E X te Γ P' := fun S0 J σ H r xo Q q => h S0 J σ H r xo Q fun v d H2 p => q v d H2 (i d p)
theorem EX.eb (h : EX K T E X te Γ P) : EB K T E X te Γ P := fun S0 J σ H r xo Q q => h S0 J σ H r xo Q fun v d H2 p r2 n2 rp => q v d H2 p r2 n2 (.inl rp)
theorem Rel.fresh {S0 J : Ad} {σ : L2.St} {H : Hp} (r : Rel K T S0 J Γ σ H) {p : Addr} (hp : Fre H p) : ¬ Sx S0 Γ p := fun z => by
  rcases z with z | z
  · exact r.wf p z hp
  · obtain ⟨e, he, hm⟩ := List.mem_flatMap.mp z
    obtain ⟨i, hi⟩ := List.getElem?_of_mem he
    cases e with
    | own q ds =>
      have : p = q := List.mem_singleton.mp hm
      subst this
      obtain ⟨_, xs, e2, _⟩ := r.getO hi
      exact hp _ e2 noT_lst
    | owk q ds =>
      have : p = q := List.mem_singleton.mp hm
      subst this
      obtain ⟨_, xs, e2, _⟩ := r.getK hi
      exact hp _ e2 noT_dK
    | owo q C dx ds =>
      have : p = q := List.mem_singleton.mp hm
      subst this
      obtain ⟨_, xs, e2, _⟩ := r.getOb hi
      exact hp _ e2 noT_ins
    | emp => cases hm
    | val d => cases hm
    | jar j => cases hm
theorem EL.ex {Q : List Dt → Prop} (h : EL K T E X te Γ Q) : EX K T E X te Γ fun d => ∃ ds, d = .lst ds ∧ Q ds := fun S0 J σ H r xo Q q => h S0 J σ H r xo Q fun p xs ds H2 hp r2 n2 h1 h2 rl =>
  q _ _ H2 ⟨ds, rfl, hp⟩ r2 n2 (.lst (.inl ⟨r.fresh h1, .inl h2⟩) (rl.sub (.of Rj.sub)))
/-- as data -/
theorem x_lst {Q : List Dt → Prop} (h : EL K T E X te Γ Q) (i : ∀ ds, Q ds → P (.lst ds)) : EX K T E X te Γ P := h.ex.imp fun d ⟨ds, e, q⟩ => by rw [e]; exact i ds q

/-! ### names, constants -/
theorem x_var {i : Nat} {d : Dt} (h : Γ[i]? = some (.val d)) (p : P d) : EX K T E X (tVar i) Γ P := fun S0 J σ H r xo Q q => by
  obtain ⟨v, e, rp⟩ := r.get h
  exact ⟨v, e, q v d H p r .refl rp⟩
theorem b_var {i : Nat} {d : Dt} (h : Γ[i]? = some (.val d)) (p : P d) : EB K T E X (tVar i) Γ P := (x_var h p).eb
theorem b_own {i : Nat} {a : Addr} {ds : List Dt} (h : Γ[i]? = some (.own a ds)) (p : P (.lst ds)) : EB K T E X (tVar i) Γ P := fun S0 J σ H r xo Q q => by
  obtain ⟨e, xs, e2, rl⟩ := r.getO h
  exact ⟨_, e, q _ _ H p r .refl (.inr ⟨a, xs, ds, rfl, rfl, fun z => r.os a (mem_owned h) (r.js _ z), e2, rl⟩)⟩
theorem x_non (p : P .non) : EX K T E X (tC .non) Γ P := fun S0 J σ H r xo Q q => q _ _ H p r .refl .non
theorem x_bl {b : Bool} (p : P (.bl b)) : EX K T E X (tC (.bl b)) Γ P := fun S0 J σ H r xo Q q => q _ _ H p r .refl (.bl b)
theorem x_int {i : Int} (p : P (.int i)) : EX K T E X (tC (.int i)) Γ P := fun S0 J σ H r xo Q q => q _ _ H p r .refl (.int i)
theorem x_str {s : Str} (p : P (.str s)) : EX K T E X (tC (.str s)) Γ P := fun S0 J σ H r xo Q q => q _ _ H p r .refl (.str s)
/-- a constant of the module -/
theorem x_wr {a : Addr} {d : Dt} (h : ∀ S H, Rep K S H (.ref a) d) (p : P d) : EX K T E X (tC (.ref a)) Γ P := fun S0 J σ H r xo Q q => q _ _ H p r .refl (h _ _)

/-! ### operators -/
/-- one behind the other -/
theorem x_op {r : R2} (ha : EX K T E X ta Γ fun x => EX K T E X tb Γ fun y => ∀ (S0 J : Ad) (σ : L2.St) (H : Hp) (v w : V), Rel K T S0 J Γ σ H → Rep K (Sx S0 Γ) H v x → Rep K (Sx S0 Γ) H w y →
      ∀ Q : VK, (∀ (z : V) (d : Dt) (H2 : Hp), P d → Rel K T S0 J Γ σ H2 → Nx T J H H2 → Rep K (Sx S0 Γ) H2 z d → Q z H2) → r v w H Q) : EX K T E X (tOp r ta tb) Γ P := fun S0 J σ H rl xo Q q =>
  ha S0 J σ H rl xo _ fun v x H2 hb r2 n2 rv => hb S0 J σ H2 r2 (xo.nx n2) _ fun w y H3 hr r3 n3 rw' => hr S0 J σ H3 v w r3 (rv.nx (r2.jS n3)) rw' Q fun z d H4 p r4 n4 rz => q z d H4 p r4 ((n2.trans n3).trans n4) rz
theorem x_opB {r : R2} (ha : EB K T E X ta Γ fun x => EB K T E X tb Γ fun y => ∀ (S0 J : Ad) (σ : L2.St) (H : Hp) (v w : V), Rel K T S0 J Γ σ H → RepB K J (Sx S0 Γ) H v x → RepB K J (Sx S0 Γ) H w y →
      ∀ Q : VK, (∀ (z : V) (d : Dt) (H2 : Hp), P d → Rel K T S0 J Γ σ H2 → Nx T J H H2 → Rep K (Sx S0 Γ) H2 z d → Q z H2) → r v w H Q) : EX K T E X (tOp r ta tb) Γ P := fun S0 J σ H rl xo Q q =>
  ha S0 J σ H rl xo _ fun v x H2 hb r2 n2 rv => hb S0 J σ H2 r2 (xo.nx n2) _ fun w y H3 hr r3 n3 rw' => hr S0 J σ H3 v w r3 (by
    rcases rv with rv | ⟨a, xs, ds, e1, e2, e3, e4, e5⟩
    · exact .inl (rv.nx (r2.jS n3))
    · exact .inr ⟨a, xs, ds, e1, e2, e3, n3.le _ _ e4 noT_lst e3, e5.nx (r2.jS n3)⟩) rw' Q fun z d H4 p r4 n4 rz => q z d H4 p r4 ((n2.trans n3).trans n4) rz
/-- two whole numbers -/
theorem x_ii {r : R2} {P2 : Int → Int → Prop} {g : Int → Int → V} {gd : Int → Int → Dt} (hg : ∀ i j S H, Rep K S H (g i j) (gd i j)) (hr : ∀ i j H Q, P2 i j → Q (g i j) H → r (.int i) (.int j) H Q)
    (ha : EX K T E X ta Γ fun x => EX K T E X tb Γ fun y => ∃ i j, x = .int i ∧ y = .int j ∧ P2 i j ∧ P (gd i j)) : EX K T E X (tOp r ta tb) Γ P :=
  x_op (ha.imp fun x hx => hx.imp fun y ⟨i, j, ex, ey, hp, p⟩ S0 J σ H v w rl rv rw' Q q => by
    subst ex; subst ey
    cases rv; cases rw'
    exact hr i j H Q hp (q _ _ H p rl .refl (hg i j _ _)))
theorem x_add (ha : EX K T E X ta Γ fun x => EX K T E X tb Γ fun y => ∃ i j, x = .int i ∧ y = .int j ∧ P (.int (i + j))) : EX K T E X (tOp (uAdd K) ta tb) Γ P :=
  x_ii (P2 := fun _ _ => True) (fun i j S H => .int (i + j)) (fun i j H Q _ q => .inl ⟨i, j, rfl, rfl, q⟩) (ha.imp fun x hx => hx.imp fun y ⟨i, j, h1, h2, p⟩ => ⟨i, j, h1, h2, trivial, p⟩)
theorem x_sub (ha : EX K T E X ta Γ fun x => EX K T E X tb Γ fun y => ∃ i j, x = .int i ∧ y = .int j ∧ P (.int (i - j))) : EX K T E X (tOp uSub ta tb) Γ P :=
  x_ii (P2 := fun _ _ => True) (fun i j S H => .int (i - j)) (fun i j H Q _ q => ⟨i, j, rfl, rfl, q⟩) (ha.imp fun x hx => hx.imp fun y ⟨i, j, h1, h2, p⟩ => ⟨i, j, h1, h2, trivial, p⟩)
theorem x_mul (ha : EX K T E X ta Γ fun x => EX K T E X tb Γ fun y => ∃ i j, x = .int i ∧ y = .int j ∧ (CMul i j ∨ CMulW i j) ∧ P (.int (i * j))) : EX K T E X (tOp uMul ta tb) Γ P :=
  x_ii (P2 := fun i j => CMul i j ∨ CMulW i j) (fun i j S H => .int (i * j)) (fun i j H Q h q => h.elim (fun h => .inl ⟨i, j, rfl, rfl, h, q⟩) fun h => .inr (.inl ⟨i, j, rfl, rfl, h, q⟩)) ha
theorem x_mod (ha : EX K T E X ta Γ fun x => EX K T E X tb Γ fun y => ∃ i j, x = .int i ∧ y = .int j ∧ 0 < j ∧ P (.int (i % j))) : EX K T E X (tOp uMod ta tb) Γ P :=
  x_ii (P2 := fun i j => 0 < j) (fun i j S H => .int (i % j)) (fun i j H Q h q => ⟨i, j, rfl, rfl, h, q⟩) ha
theorem x_fdiv (ha : EX K T E X ta Γ fun x => EX K T E X tb Γ fun y => ∃ i j, x = .int i ∧ y = .int j ∧ CDivW i j ∧ P (.int (i / j))) : EX K T E X (tOp uFdiv ta tb) Γ P :=
  x_ii (P2 := fun i j => CDivW i j) (fun i j S H => .int (i / j)) (fun i j H Q h q => ⟨i, j, rfl, rfl, h, q⟩) ha
theorem x_pow (ha : EX K T E X ta Γ fun x => EX K T E X tb Γ fun y => ∃ i j, x = .int i ∧ y = .int j ∧ CPow i j ∧ P (.int (i ^ j.toNat))) : EX K T E X (tOp uPow ta tb) Γ P :=
  x_ii (P2 := fun i j => CPow i j) (fun i j S H => .int (i ^ j.toNat)) (fun i j H Q h q => ⟨i, j, rfl, rfl, h, q⟩) ha
theorem x_le (ha : EX K T E X ta Γ fun x => EX K T E X tb Γ fun y => ∃ i j, x = .int i ∧ y = .int j ∧ P (.bl (decide (i ≤ j)))) : EX K T E X (tOp uLe ta tb) Γ P :=
  x_ii (P2 := fun _ _ => True) (fun i j S H => .bl _) (fun i j H Q _ q => ⟨i, j, rfl, rfl, q⟩) (ha.imp fun x hx => hx.imp fun y ⟨i, j, h1, h2, p⟩ => ⟨i, j, h1, h2, trivial, p⟩)
theorem x_gt (ha : EX K T E X ta Γ fun x => EX K T E X tb Γ fun y => ∃ i j, x = .int i ∧ y = .int j ∧ P (.bl (decide (j < i)))) : EX K T E X (tOp uGt ta tb) Γ P :=
  x_ii (P2 := fun _ _ => True) (fun i j S H => .bl _) (fun i j H Q _ q => ⟨i, j, rfl, rfl, q⟩) (ha.imp fun x hx => hx.imp fun y ⟨i, j, h1, h2, p⟩ => ⟨i, j, h1, h2, trivial, p⟩)
theorem x_ge (ha : EX K T E X ta Γ fun x => EX K T E X tb Γ fun y => ∃ i j, x = .int i ∧ y = .int j ∧ P (.bl (decide (j ≤ i)))) : EX K T E X (tOp uGe ta tb) Γ P :=
  x_ii (P2 := fun _ _ => True) (fun i j S H => .bl _) (fun i j H Q _ q => ⟨i, j, rfl, rfl, q⟩) (ha.imp fun x hx => hx.imp fun y ⟨i, j, h1, h2, p⟩ => ⟨i, j, h1, h2, trivial, p⟩)
theorem x_lt (ha : EX K T E X ta Γ fun x => EX K T E X tb Γ fun y => ∃ i j, x = .int i ∧ y = .int j ∧ P (.bl (decide (i < j)))) : EX K T E X (tOp uLt ta tb) Γ P :=
  x_ii (P2 := fun _ _ => True) (fun i j S H => .bl _) (fun i j H Q _ q => .inl ⟨i, j, rfl, rfl, q⟩) (ha.imp fun x hx => hx.imp fun y ⟨i, j, h1, h2, p⟩ => ⟨i, j, h1, h2, trivial, p⟩)
theorem x_ltS (ha : EX K T E X ta Γ fun x => EX K T E X tb Γ fun y => ∃ i j, x = .str i ∧ y = .str j ∧ P (.bl (decide (i.cps.toList < j.cps.toList)))) : EX K T E X (tOp uLt ta tb) Γ P :=
  x_op (ha.imp fun x hx => hx.imp fun y ⟨i, j, ex, ey, p⟩ S0 J σ H v w rl rv rw' Q q => by
    subst ex; subst ey
    cases rv; cases rw'
    exact .inr ⟨i, j, rfl, rfl, q _ _ H p rl .refl (.bl _)⟩)
theorem x_addS (ha : EX K T E X ta Γ fun x => EX K T E X tb Γ fun y => ∃ i j, x = .str i ∧ y = .str j ∧ i.length + j.length ≤ sizeLine ∧ P (.str (i ++ j))) : EX K T E X (tOp (uAdd K) ta tb) Γ P :=
  x_op (ha.imp fun x hx => hx.imp fun y ⟨i, j, ex, ey, hl, p⟩ S0 J σ H v w rl rv rw' Q q => by
    subst ex; subst ey
    cases rv; cases rw'
    exact .inr (.inl ⟨i, j, rfl, rfl, hl, q _ _ H p rl .refl (.str _)⟩))
theorem x_neg (ha : EX K T E X ta Γ fun x => ∃ i, x = .int i ∧ P (.int (-i))) : EX K T E X (tUn (rU fun i => .int (-i)) ta) Γ P := fun S0 J σ H r xo Q q =>
  ha S0 J σ H r xo _ fun v x H2 ⟨i, ex, p⟩ r2 n2 rv => by
    subst ex
    cases rv
    exact ⟨i, rfl, q _ _ H2 p r2 n2 (.int _)⟩
/-- is None -/
theorem x_isN (ha : EX K T E X ta Γ fun x => P (.bl (match x with | .non => true | _ => false))) : EX K T E X (tOp uIsN ta (tC .non)) Γ P := fun S0 J σ H r xo Q q =>
  ha S0 J σ H r xo _ fun v x H2 p r2 n2 rv => ⟨rfl, q _ _ H2 p r2 n2 (by cases rv <;> exact .bl _)⟩
theorem x_notN (ha : EX K T E X ta Γ fun x => P (.bl (match x with | .non => false | _ => true))) : EX K T E X (tOp uNotN ta (tC .non)) Γ P := fun S0 J σ H r xo Q q =>
  ha S0 J σ H r xo _ fun v x H2 p r2 n2 rv => ⟨rfl, q _ _ H2 p r2 n2 (by cases rv <;> exact .bl _)⟩
theorem x_isB {b : Bool} (ha : EX K T E X ta Γ fun x => ∃ c, x = .bl c ∧ P (.bl (decide (c = b)))) : EX K T E X (tOp rIsB ta (tC (.bl b))) Γ P := fun S0 J σ H r xo Q q =>
  ha S0 J σ H r xo _ fun v x H2 ⟨c, ex, p⟩ r2 n2 rv => by
    subst ex
    cases rv
    exact ⟨c, b, rfl, rfl, q _ _ H2 p r2 n2 (.bl _)⟩
/-! ### truths -/
theorem x_and (ha : EX K T E X ta Γ fun x => ∃ c, x = .bl c ∧ (c = true → EX K T E X tb Γ P) ∧ (c = false → P (.bl false))) : EX K T E X (tAndV ta tb) Γ P := fun S0 J σ H r xo Q q =>
  ha S0 J σ H r xo _ fun v x H2 ⟨c, ex, h1, h2⟩ r2 n2 rv => by
    subst ex
    cases rv
    refine ⟨c, rfl, ?_⟩
    cases c with
    | true =>
      show tb σ H2 Q
      exact h1 rfl S0 J σ H2 r2 (xo.nx n2) Q fun w d H3 p r3 n3 rw' => q w d H3 p r3 (n2.trans n3) rw'
    | false =>
      show Q (.bl false) H2
      exact q _ _ H2 (h2 rfl) r2 n2 (.bl _)
theorem x_or (ha : EX K T E X ta Γ fun x => ∃ c, x = .bl c ∧ (c = false → EX K T E X tb Γ P) ∧ (c = true → P (.bl true))) : EX K T E X (tOrV ta tb) Γ P := fun S0 J σ H r xo Q q =>
  ha S0 J σ H r xo _ fun v x H2 ⟨c, ex, h1, h2⟩ r2 n2 rv => by
    subst ex
    cases rv
    refine ⟨c, rfl, ?_⟩
    cases c with
    | false =>
      show tb σ H2 Q
      exact h1 rfl S0 J σ H2 r2 (xo.nx n2) Q fun w d H3 p r3 n3 rw' => q w d H3 p r3 (n2.trans n3) rw'
    | true =>
      show Q (.bl true) H2
      exact q _ _ H2 (h2 rfl) r2 n2 (.bl _)
theorem x_not (ha : EX K T E X ta Γ fun x => ∃ c, x = .bl c ∧ P (.bl (!c))) : EX K T E X (tNotV ta) Γ P := fun S0 J σ H r xo Q q =>
  ha S0 J σ H r xo _ fun v x H2 ⟨c, ex, p⟩ r2 n2 rv => by
    subst ex
    cases rv
    exact ⟨c, rfl, q _ _ H2 p r2 n2 (.bl _)⟩
theorem x_if (h : ET K T E X t Γ fun b => (b = true → EX K T E X ta Γ P) ∧ (b = false → EX K T E X tb Γ P)) : EX K T E X (tIf t ta tb) Γ P := fun S0 J σ H r xo Q q =>
  h S0 J σ H r xo _ fun b H2 hb r2 n2 => by
    cases b with
    | true =>
      show ta σ H2 Q
      exact hb.1 rfl S0 J σ H2 r2 (xo.nx n2) Q fun w d H3 p r3 n3 rw' => q w d H3 p r3 (n2.trans n3) rw'
    | false =>
      show tb σ H2 Q
      exact hb.2 rfl S0 J σ H2 r2 (xo.nx n2) Q fun w d H3 p r3 n3 rw' => q w d H3 p r3 (n2.trans n3) rw'
/-! ### tests -/
variable {B : Bool → Prop}
theorem ET.imp {B' : Bool → Prop} (h : ET K T E X t Γ B) (i : ∀ b, B b → B' b) : ET K T E X t Γ B' := fun S0 J σ H r xo Q q => h S0 J σ H r xo Q fun b H2 p => q b H2 (i b p)
theorem t_val (ha : EX K T E X ta Γ fun x => ∃ c, x = .bl c ∧ B c) : ET K T E X (tB ta) Γ B := fun S0 J σ H r xo Q q =>
  ha S0 J σ H r xo _ fun v x H2 ⟨c, ex, p⟩ r2 n2 rv => by
    subst ex
    cases rv
    exact ⟨c, rfl, q c H2 p r2 n2⟩
theorem t_test (ha : EX K T E X ta Γ fun x => ∃ c, x = .bl c ∧ B c) : ET K T E X (tTest ta) Γ B := fun S0 J σ H r xo Q q =>
  ha S0 J σ H r xo _ fun v x H2 ⟨c, ex, p⟩ r2 n2 rv => by
    subst ex
    cases rv
    exact ⟨c, rfl, q c H2 p r2 n2⟩
theorem t_and (h : ET K T E X t Γ fun b => (b = true → ET K T E X u Γ B) ∧ (b = false → B false)) : ET K T E X (tAnd t u) Γ B := fun S0 J σ H r xo Q q =>
  h S0 J σ H r xo _ fun b H2 hb r2 n2 => by
    cases b with
    | true =>
      show u σ H2 Q
      exact hb.1 rfl S0 J σ H2 r2 (xo.nx n2) Q fun c H3 p r3 n3 => q c H3 p r3 (n2.trans n3)
    | false =>
      show Q false H2
      exact q false H2 (hb.2 rfl) r2 n2
theorem t_or (h : ET K T E X t Γ fun b => (b = false → ET K T E X u Γ B) ∧ (b = true → B true)) : ET K T E X (tOr t u) Γ B := fun S0 J σ H r xo Q q =>
  h S0 J σ H r xo _ fun b H2 hb r2 n2 => by
    cases b with
    | false =>
      show u σ H2 Q
      exact hb.1 rfl S0 J σ H2 r2 (xo.nx n2) Q fun c H3 p r3 n3 => q c H3 p r3 (n2.trans n3)
    | true =>
      show Q true H2
      exact q true H2 (hb.2 rfl) r2 n2
theorem t_not (h : ET K T E X t Γ fun b => B (!b)) : ET K T E X (tNot t) Γ B := fun S0 J σ H r xo Q q => h S0 J σ H r xo _ fun b H2 hb r2 n2 => q _ H2 hb r2 n2
/-! ### arguments, displays -/
variable {A : List Dt → Prop} {tr : TA}
theorem EA.imp {A' : List Dt → Prop} (h : EA K T E X tr Γ A) (i : ∀ ds, A ds → A' ds) : EA K T E X tr Γ A' := fun S0 J σ H r xo Q q => h S0 J σ H r xo Q fun vs ds H2 p => q vs ds H2 (i ds p)
theorem a_nil (p : A []) : EA K T E X tNil Γ A := fun S0 J σ H r xo Q q => q [] [] H p r .refl .nil
theorem a_cons (h : EX K T E X ta Γ fun x => EA K T E X tr Γ fun ds => A (x :: ds)) : EA K T E X (tCons ta tr) Γ A := fun S0 J σ H r xo Q q =>
  h S0 J σ H r xo _ fun v x H2 ha r2 n2 rv => ha S0 J σ H2 r2 (xo.nx n2) _ fun vs ds H3 p r3 n3 rl => q _ _ H3 p r3 (n2.trans n3) (.cons (rv.nx (r2.jS n3)) rl)
theorem RepL.len {S : Ad} {H : Hp} : ∀ {vs : List V} {ds : List Dt}, RepL K S H vs ds → vs.length = ds.length
  | _, _, .nil => rfl
  | _, _, .cons _ r => by rw [List.length_cons, List.length_cons, RepL.len r]
theorem RepL.get {S : Ad} {H : Hp} : ∀ {vs : List V} {ds : List Dt} {i : Nat} {d : Dt}, RepL K S H vs ds → ds[i]? = some d → ∃ v, vs[i]? = some v ∧ Rep K S H v d
  | _, _, _, _, .nil, h => by cases h
  | _, _, 0, _, .cons r _, h => by cases h; exact ⟨_, rfl, r⟩
  | _, _, i + 1, _, .cons _ t, h => by
    obtain ⟨v, e, r⟩ := RepL.get (i := i) t (by simpa using h)
    exact ⟨v, by simpa using e, r⟩
theorem RepL.get' {S : Ad} {H : Hp} {vs : List V} {ds : List Dt} {i : Nat} {v : V} (r : RepL K S H vs ds) (h : vs[i]? = some v) : ∃ d, ds[i]? = some d ∧ Rep K S H v d := by
  have hl := (List.getElem?_eq_some_iff.mp h).1
  have hl2 : i < ds.length := by rw [← r.len]; exact hl
  obtain ⟨w, e, rw'⟩ := r.get (List.getElem?_eq_getElem hl2)
  rw [h] at e
  cases e
  exact ⟨_, List.getElem?_eq_getElem hl2, rw'⟩
theorem RepL.app {S : Ad} {H : Hp} : ∀ {vs ws : List V} {ds es : List Dt}, RepL K S H vs ds → RepL K S H ws es → RepL K S H (vs ++ ws) (ds ++ es)
  | _, _, _, _, .nil, h => h
  | _, _, _, _, .cons r t, h => .cons r (RepL.app t h)
theorem x_tup (h : EA K T E X tr Γ fun ds => ds.length ≤ sizeLine ∧ P (.tup ds)) : EX K T E X (tTup tr) Γ P := fun S0 J σ H r xo Q q =>
  h S0 J σ H r xo _ fun vs ds H2 ⟨hl, p⟩ r2 n2 rl => ⟨by rw [rl.len]; exact hl, fun a ha => by
    have n3 : ∀ {S : Ad}, Nx T S H2 (upd H2 a (.tup vs)) := fun {S} => .new ha noT_tup
    exact q _ _ _ p (r2.nx n3) (n2.trans n3) (.tup (.inl ⟨r2.fresh (.of ha), .inl upd_same⟩) (rl.nx n3))⟩
theorem l_lst (h : EA K T E X tr Γ fun ds => ds.length ≤ sizeLine ∧ A ds) : EL K T E X (tLst tr) Γ A := fun S0 J σ H r xo Q q =>
  h S0 J σ H r xo _ fun vs ds H2 ⟨hl, p⟩ r2 n2 rl => ⟨by rw [rl.len]; exact hl, fun a ha => by
    have n3 : ∀ {S : Ad}, Nx T S H2 (upd H2 a (.lst vs)) := fun {S} => .new ha noT_lst
    exact q _ _ _ _ p (r2.nx n3) (n2.trans n3) (n2.dom a (.of ha)) upd_same (rl.anew (T := T) ha noT_lst)⟩
end
end Lp

set_option Elab.async false
set_option linter.all false
set_option maxRecDepth 100000
set_option maxHeartbeats 4000000
/-! L7: equality, membership, places, lengths, slices, copies, types over data. Own work. -/
namespace Lp
open PySem PySem.Spec PyProof.Rows L2 LamX
mutual
def toPy : Dt → PyData
  | .non => .none
  | .bl b => .bool b
  | .int i => .int i
  | .str s => .str s
  | .tup l => .tuple (toPyL l)
  | .lst l => .list (toPyL l)
  | .dct _ => .none
  | .obj _ _ => .none
def toPyL : List Dt → List PyData
  | [] => []
  | d :: l => toPy d :: toPyL l
end
mutual
def plainB : Dt → Bool
  | .tup l => plainL l
  | .lst l => plainL l
  | .dct _ => false
  | .obj _ _ => false
  | _ => true
def plainL : List Dt → Bool
  | [] => true
  | d :: l => plainB d && plainL l
end
def eqD (d e : Dt) : Bool := PyData.eqv (toPy d) (toPy e)
/-- data that == takes -/
def Okd (d : Dt) : Prop := plainB d = true ∧ SeqAt.shaped (toPy d) = true
theorem toPyL_any (ds : List Dt) (x : Dt) : ((toPyL ds).any fun z => PyData.eqv z (toPy x)) = ds.any fun z => eqD z x := by
  induction ds with
  | nil => rfl
  | cons d ds ih => simp only [toPyL, List.any_cons, ih, eqD]
section
variable {K : Fg} {T : Tbl} {E : XK} {X : XP} {S J S0 : Ad} {H : Hp}
mutual
theorem Rep.dp : ∀ {v : V} {d : Dt}, Rep K S H v d → plainB d = true → Dp K H v (toPy d)
  | _, _, .non, _ => .non
  | _, _, .bl b, _ => .bl b
  | _, _, .int i, _ => .int i
  | _, _, .str y, _ => .str y
  | _, _, .tup h r, p => .tup h.sq (RepL.dp r (by simpa only [plainB] using p))
  | _, _, .lst h r, p => .lst h.sq (RepL.dp r (by simpa only [plainB] using p))
  | _, _, .dct _ _ _, p => by simp [plainB] at p
  | _, _, .obj _ _ _, p => by simp [plainB] at p
theorem RepL.dp : ∀ {v : List V} {d : List Dt}, RepL K S H v d → plainL d = true → DpAll K H v (toPyL d)
  | _, _, .nil, _ => .nil
  | _, _, .cons h r, p => by
    simp only [plainL, Bool.and_eq_true] at p
    exact .cons (Rep.dp h p.1) (RepL.dp r p.2)
end
theorem RepB.dp {v : V} {d : Dt} (h : RepB K J S H v d) (p : plainB d = true) : Dp K H v (toPy d) := by
  rcases h with h | ⟨a, xs, ds, rfl, rfl, _, e, r⟩
  · exact h.dp p
  · exact .lst (.inl (.inl e)) (r.dp (by simpa only [plainB] using p))
/-! ### operators more -/
def rInDT (K : Fg) (n : Bool) : R2 := fun x y H Q => ∃ d ds, Dp K H x d ∧ Dp K H y (.tuple ds) ∧ SeqAt.shaped d = true ∧ SeqAt.shaped (.tuple ds) = true ∧ Q (.bl (if n then !ds.any fun z => PyData.eqv z d else ds.any fun z => PyData.eqv z d)) H
theorem shaped_tl {ds : List PyData} (h : SeqAt.shaped (.tuple ds) = true) : SeqAt.shaped (.list ds) = true := by
  have h1 := SeqAt.canLay_of_shaped h
  have h2 := SeqAt.depth_of_shaped h
  unfold SeqAt.shaped
  rw [Bool.and_eq_true_iff]
  exact ⟨h1, decide_eq_true h2⟩
theorem op_inDT {X : Cx} (hu : X.A.units + 65 < cLine) : OpR X (compareOp .In) (rInDT X.K false) := by
  intro pins s σ H x y v u Q I rx ry h
  obtain ⟨d, ds, hd, he, sd, se, q⟩ := h
  obtain ⟨as, r1⟩ := Dp.reads I d x v hd rx
  obtain ⟨bs, r2⟩ := Dp.reads I (.tuple ds) y u he ry
  exact SeqAt.in_tuple_reads r2 r1 (SeqAt.canLay_of_shaped (shaped_tl se)) (SeqAt.canLay_of_shaped sd) (room_in_shaped sd hu) ⟨.bl _, H, I, rfl, q⟩
theorem op_ninDT {X : Cx} (hu : X.A.units + 65 < cLine) : OpR X (compareOp .NotIn) (rInDT X.K true) := by
  intro pins s σ H x y v u Q I rx ry h
  obtain ⟨d, ds, hd, he, sd, se, q⟩ := h
  obtain ⟨as, r1⟩ := Dp.reads I d x v hd rx
  obtain ⟨bs, r2⟩ := Dp.reads I (.tuple ds) y u he ry
  exact SeqAt.notIn_tuple_reads r2 r1 (SeqAt.canLay_of_shaped (shaped_tl se)) (SeqAt.canLay_of_shaped sd) (room_in_shaped sd hu) ⟨.bl _, H, I, rfl, q⟩
def vIn (K : Fg) : R2 := fun x y H Q => rInDT K false x y H Q ∨ (rInD K x y H Q ∨ (rInS x y H Q ∨ rIn K false x y H Q))
def vNin (K : Fg) : R2 := fun x y H Q => rInDT K true x y H Q ∨ (rNotInD K x y H Q ∨ (rNotInS x y H Q ∨ rIn K true x y H Q))
theorem op_vIn {X : Cx} (hu : X.A.units + 65 < cLine) : OpR X (compareOp .In) (vIn X.K) := (op_inDT hu).or ((op_inD hu).or (op_inS.or op_in_seq))
theorem op_vNin {X : Cx} (hu : X.A.units + 65 < cLine) : OpR X (compareOp .NotIn) (vNin X.K) := (op_ninDT hu).or ((op_notInD hu).or (op_notInS.or op_notIn_seq))
variable {Γ : List Ent} {P : Dt → Prop} {ta tb tc te : TE} {t u : TT} {tr : TA}
/-- from data of which one half is but read -/
theorem EB.imp {P' : Dt → Prop} (h : EB K T E X te Γ P) (i : ∀ d, P d → P' d) : EB K T E X te Γ P' := fun S0 J σ H r xo Q q => h S0 J σ H r xo Q fun v d H2 p => q v d H2 (i d p)
theorem x_eq (ha : EB K T E X ta Γ fun x => EB K T E X tb Γ fun y => Okd x ∧ Okd y ∧ P (.bl (eqD x y))) : EX K T E X (tOp (uEq K) ta tb) Γ P :=
  x_opB (ha.imp fun x hx => hx.imp fun y ⟨h1, h2, p⟩ S0 J σ H v w rl rv rw' Q q =>
    .inr (.inl ⟨toPy x, toPy y, rv.dp h1.1, rw'.dp h2.1, h1.2, h2.2, q _ _ H p rl .refl (.bl _)⟩))
theorem x_ne (ha : EB K T E X ta Γ fun x => EB K T E X tb Γ fun y => Okd x ∧ Okd y ∧ P (.bl (!eqD x y))) : EX K T E X (tOp (uNe K) ta tb) Γ P :=
  x_opB (ha.imp fun x hx => hx.imp fun y ⟨h1, h2, p⟩ S0 J σ H v w rl rv rw' Q q =>
    .inr ⟨toPy x, toPy y, rv.dp h1.1, rw'.dp h2.1, h1.2, h2.2, q _ _ H p rl .refl (.bl _)⟩)
theorem x_in (ha : EB K T E X ta Γ fun x => EB K T E X tb Γ fun y => ∃ ds, (y = .tup ds ∨ y = .lst ds) ∧ Okd x ∧ Okd y ∧ P (.bl (ds.any fun z => eqD z x))) : EX K T E X (tOp (vIn K) ta tb) Γ P :=
  x_opB (ha.imp fun x hx => hx.imp fun y ⟨ds, hy, h1, h2, p⟩ S0 J σ H v w rl rv rw' Q q => by
    rcases hy with rfl | rfl
    · refine .inl ⟨toPy x, toPyL ds, rv.dp h1.1, rw'.dp h2.1, h1.2, h2.2, ?_⟩
      rw [toPyL_any]
      exact q _ _ H p rl .refl (.bl _)
    · refine .inr (.inl ⟨toPy x, toPyL ds, rv.dp h1.1, rw'.dp h2.1, h1.2, h2.2, ?_⟩)
      rw [toPyL_any]
      exact q _ _ H p rl .refl (.bl _))
theorem x_inS (ha : EX K T E X ta Γ fun x => EX K T E X tb Γ fun y => ∃ c z, x = .str ⟨#[c]⟩ ∧ y = .str z ∧ P (.bl (decide (c ∈ z.cps.toList)))) : EX K T E X (tOp (vIn K) ta tb) Γ P :=
  x_op (ha.imp fun x hx => hx.imp fun y ⟨c, z, ex, ey, p⟩ S0 J σ H v w rl rv rw' Q q => by
    subst ex; subst ey
    cases rv; cases rw'
    exact .inr (.inr (.inl ⟨c, z, rfl, rfl, q _ _ H p rl .refl (.bl _)⟩)))
theorem x_ninS (ha : EX K T E X ta Γ fun x => EX K T E X tb Γ fun y => ∃ c z, x = .str ⟨#[c]⟩ ∧ y = .str z ∧ P (.bl (!decide (c ∈ z.cps.toList)))) : EX K T E X (tOp (vNin K) ta tb) Γ P :=
  x_op (ha.imp fun x hx => hx.imp fun y ⟨c, z, ex, ey, p⟩ S0 J σ H v w rl rv rw' Q q => by
    subst ex; subst ey
    cases rv; cases rw'
    exact .inr (.inr (.inl ⟨c, z, rfl, rfl, q _ _ H p rl .refl (.bl _)⟩)))
theorem x_nin (ha : EB K T E X ta Γ fun x => EB K T E X tb Γ fun y => ∃ ds, (y = .tup ds ∨ y = .lst ds) ∧ Okd x ∧ Okd y ∧ P (.bl (!ds.any fun z => eqD z x))) : EX K T E X (tOp (vNin K) ta tb) Γ P :=
  x_opB (ha.imp fun x hx => hx.imp fun y ⟨ds, hy, h1, h2, p⟩ S0 J σ H v w rl rv rw' Q q => by
    rcases hy with rfl | rfl
    · refine .inl ⟨toPy x, toPyL ds, rv.dp h1.1, rw'.dp h2.1, h1.2, h2.2, ?_⟩
      rw [toPyL_any]
      exact q _ _ H p rl .refl (.bl _)
    · refine .inr (.inl ⟨toPy x, toPyL ds, rv.dp h1.1, rw'.dp h2.1, h1.2, h2.2, ?_⟩)
      rw [toPyL_any]
      exact q _ _ H p rl .refl (.bl _))
/-! ### a sequence: its items stand for data -/
/-- v is a list or a tuple whose items are xs -/
def SqB (K : Fg) (H : Hp) (v : V) (b : Bool) (xs : List V) : Prop := ∃ a, v = .ref a ∧ ((b = true ∧ SqL K H a xs) ∨ (b = false ∧ SqT K H a xs))
def sqD (b : Bool) (ds : List Dt) : Dt := if b then .lst ds else .tup ds
theorem RepB.seq {v : V} {b : Bool} {ds : List Dt} (h : RepB K J S H v (sqD b ds)) : ∃ xs, SqB K H v b xs ∧ RepL K S H xs ds := by
  rcases h with h | ⟨a, xs, ds', rfl, e2, _, e, r⟩
  · cases b with
    | true => cases h with
      | lst h r => exact ⟨_, ⟨_, rfl, .inl ⟨rfl, h.sq⟩⟩, r⟩
    | false => cases h with
      | tup h r => exact ⟨_, ⟨_, rfl, .inr ⟨rfl, h.sq⟩⟩, r⟩
  · cases b with
    | true => cases e2; exact ⟨xs, ⟨a, rfl, .inl ⟨rfl, .inl (.inl e)⟩⟩, r⟩
    | false => cases e2
theorem Rep.seq {v : V} {b : Bool} {ds : List Dt} (h : Rep K S H v (sqD b ds)) : ∃ xs, SqB K H v b xs ∧ RepL K S H xs ds := RepB.seq (J := S) (.inl h)
/-- what len says -/
def lenD : Dt → Option Nat
  | .tup l => some l.length
  | .lst l => some l.length
  | .str s => some s.length
  | _ => none
/-- one argument that is but read -/
theorem x_b1 {r : List V → Hp → VK → Prop} (ha : EB K T E X ta Γ fun x => ∀ (S0 J : Ad) (σ : L2.St) (H : Hp) (v : V), Rel K T S0 J Γ σ H → RepB K J (Sx S0 Γ) H v x →
      ∀ Q : VK, (∀ (z : V) (d : Dt) (H2 : Hp), P d → Rel K T S0 J Γ σ H2 → Nx T J H H2 → Rep K (Sx S0 Γ) H2 z d → Q z H2) → r [v] H Q) : EX K T E X (tCB r (tCons ta tNil)) Γ P := fun S0 J σ H rl xo Q q =>
  ha S0 J σ H rl xo _ fun v x H2 h r2 n2 rv => h S0 J σ H2 v r2 rv Q fun z d H3 p r3 n3 rz => q z d H3 p r3 (n2.trans n3) rz
theorem x_len (ha : EB K T E X ta Γ fun x => (∃ b ds, x = sqD b ds ∧ P (.int ds.length)) ∨ ∃ z : Str, x = .str z ∧ z.length ≤ sizeLine ∧ P (.int z.length)) : EX K T E X (tCB (uLen K) (tCons ta tNil)) Γ P :=
  x_b1 (ha.imp fun x hx S0 J σ H v rl rv Q q => by
    rcases hx with ⟨b, ds, rfl, p⟩ | ⟨z, rfl, hz, p⟩
    · obtain ⟨xs, ⟨a, e, h⟩, rr⟩ := rv.seq
      refine .inl ⟨a, xs, by rw [e], h.imp (·.2) (·.2), ?_⟩
      rw [rr.len]
      exact q _ _ H p rl .refl (.int _)
    · rcases rv with rv | ⟨a, xs, ds', rfl, e2, _⟩
      · cases rv
        exact .inr (.inl ⟨z, rfl, hz, q _ _ H p rl .refl (.int _)⟩)
      · cases e2)
theorem l_list {A : List Dt → Prop} (ha : EB K T E X ta Γ fun x => ∃ b ds, x = sqD b ds ∧ A ds) : EL K T E X (tCB (uList K) (tCons ta tNil)) Γ A := fun S0 J σ H rl xo Q q =>
  ha S0 J σ H rl xo _ fun v x H2 ⟨b, ds, ex, p⟩ r2 n2 rv => by
    subst ex
    obtain ⟨xs, ⟨a, e, h⟩, rr⟩ := rv.seq
    refine ⟨a, xs, by rw [e], h.imp (·.2) (·.2), fun l hl => ?_⟩
    have n3 : ∀ {S : Ad}, Nx T S H2 (upd H2 l (.lst xs)) := fun {S} => .new hl noT_lst
    exact q _ _ _ _ p (r2.nx n3) (n2.trans n3) (n2.dom _ (.of hl)) upd_same (rr.anew (T := T) hl noT_lst)
theorem x_tuple (ha : EB K T E X ta Γ fun x => ∃ b ds, x = sqD b ds ∧ P (.tup ds)) : EX K T E X (tCB (uTuple K) (tCons ta tNil)) Γ P :=
  x_b1 (ha.imp fun x ⟨b, ds, ex, p⟩ S0 J σ H v rl rv Q q => by
    subst ex
    cases b with
    | true =>
      obtain ⟨xs, ⟨a, e, h⟩, rr⟩ := rv.seq
      obtain ⟨_, h⟩ := h.resolve_right fun z => nomatch z.1
      refine ⟨a, xs, by rw [e], .inl ⟨h, fun l hl => ?_⟩⟩
      have n3 : ∀ {S : Ad}, Nx T S H (upd H l (.tup xs)) := fun {S} => .new hl noT_tup
      exact q _ _ _ p (rl.nx n3) n3 (.tup (.inl ⟨rl.fresh (.of hl), .inl upd_same⟩) (rr.nx n3))
    | false =>
      rcases rv with rv | ⟨a, xs, ds', rfl, e2, _⟩
      · cases rv with
        | tup h rr => exact ⟨_, _, rfl, .inr ⟨h.sq, q _ _ H p rl .refl (.tup h rr)⟩⟩
      · cases e2)
theorem x_int1 (ha : EX K T E X ta Γ fun x => ∃ i, x = .int i ∧ P (.int i)) : EX K T E X (tCB uInt (tCons ta tNil)) Γ P := fun S0 J σ H r xo Q q =>
  ha S0 J σ H r xo _ fun v x H2 ⟨i, ex, p⟩ r2 n2 rv => by
    subst ex
    cases rv
    exact .inl ⟨i, rfl, q _ _ H2 p r2 n2 (.int _)⟩
theorem x_bool1 (ha : EX K T E X ta Γ fun x => ∃ b, x = .bl b ∧ P (.bl b)) : EX K T E X (tCB uBool (tCons ta tNil)) Γ P := fun S0 J σ H r xo Q q =>
  ha S0 J σ H r xo _ fun v x H2 ⟨i, ex, p⟩ r2 n2 rv => by
    subst ex
    cases rv
    exact .inr ⟨i, rfl, q _ _ H2 p r2 n2 (.bl _)⟩
theorem x_str1 (ha : EX K T E X ta Γ fun x => ∃ s, x = .str s ∧ P (.str s)) : EX K T E X (tCB uStr (tCons ta tNil)) Γ P := fun S0 J σ H r xo Q q =>
  ha S0 J σ H r xo _ fun v x H2 ⟨i, ex, p⟩ r2 n2 rv => by
    subst ex
    cases rv
    exact .inl ⟨i, rfl, q _ _ H2 p r2 n2 (.str _)⟩
theorem x_max2 (ha : EX K T E X ta Γ fun x => EX K T E X tb Γ fun y => ∃ i j, x = .int i ∧ y = .int j ∧ P (.int (if j > i then j else i))) : EX K T E X (tCB uMax2 (tCons ta (tCons tb tNil))) Γ P := fun S0 J σ H r xo Q q =>
  ha S0 J σ H r xo _ fun v x H2 hb r2 n2 rv => hb S0 J σ H2 r2 (xo.nx n2) _ fun w y H3 ⟨i, j, ex, ey, p⟩ r3 n3 rw' => by
    subst ex; subst ey
    cases rv; cases rw'
    exact ⟨i, j, rfl, q _ _ H3 p r3 (n2.trans n3) (.int _)⟩
/-! ### a place -/
theorem atI_eq {α : Type} {xs : List α} {i : Int} {j : Nat} {x : α} (h : ixN xs.length i = some j) (e : xs[j]? = some x) : atI xs i = some x := by
  unfold atI
  rw [h]
  exact e
theorem x_ix (ha : EB K T E X ta Γ fun x => EX K T E X tb Γ fun y => ∃ b ds i j d, x = sqD b ds ∧ y = .int i ∧ ixN ds.length i = some j ∧ ds[j]? = some d ∧ P d) : EX K T E X (tOp (rIx K) ta tb) Γ P := fun S0 J σ H rl xo Q q =>
  ha S0 J σ H rl xo _ fun v x H2 hb r2 n2 rv => hb S0 J σ H2 r2 (xo.nx n2) _ fun w y H3 ⟨b, ds, i, j, d, ex, ey, h1, h2, p⟩ r3 n3 rw' => by
    subst ex; subst ey
    cases rw'
    have rv3 : RepB K J (Sx S0 Γ) H3 v (sqD b ds) := by
      rcases rv with rv | ⟨a, xs, ds, e1, e2, e3, e4, e5⟩
      · exact .inl (rv.nx (r2.jS n3))
      · exact .inr ⟨a, xs, ds, e1, e2, e3, n3.le _ _ e4 noT_lst e3, e5.nx (r2.jS n3)⟩
    obtain ⟨xs, ⟨a, e, h⟩, rr⟩ := rv3.seq
    subst e
    obtain ⟨z, hz, rz⟩ := rr.get h2
    have hat : atI xs i = some z := atI_eq (by rw [rr.len]; exact h1) hz
    have fin := q z d H3 p r3 (n2.trans n3) rz
    rcases h with ⟨_, h⟩ | ⟨_, h⟩
    · exact .inl ⟨a, xs, i, z, rfl, rfl, h, hat, fin⟩
    · exact .inr (.inl ⟨a, xs, i, z, rfl, rfl, h, hat, fin⟩)
/-! ### a slice -/
def cutD (ds : List Dt) (lo hi : Option Int) : List Dt := (ds.drop (HT.sIx ds.length 0 lo)).take (HT.sIx ds.length ds.length hi - HT.sIx ds.length 0 lo)
theorem RepL.drop {vs : List V} {ds : List Dt} : ∀ (n : Nat), RepL K S H vs ds → ∀ {vs' : List V}, vs' = vs.drop n → RepL K S H vs' (ds.drop n) := fun n => by
  induction n generalizing vs ds with
  | zero => intro r vs' e; subst e; exact r
  | succ n ih =>
    intro r vs' e
    subst e
    cases r with
    | nil => exact .nil
    | cons _ r => exact ih r rfl
theorem RepL.take {vs : List V} {ds : List Dt} : ∀ (n : Nat), RepL K S H vs ds → RepL K S H (vs.take n) (ds.take n) := fun n => by
  induction n generalizing vs ds with
  | zero => intro r; exact .nil
  | succ n ih =>
    intro r
    cases r with
    | nil => exact .nil
    | cons h r => exact .cons h (ih r)
theorem RepL.cut {vs : List V} {ds : List Dt} (r : RepL K S H vs ds) (lo hi : Option Int) : RepL K S H (cutV vs lo hi) (cutD ds lo hi) := by
  unfold cutV cutD
  rw [r.len]
  exact (r.drop _ rfl).take _
/-- a bound of a slice -/
def EO (K : Fg) (T : Tbl) (E : XK) (X : XP) (to : TO) (Γ : List Ent) (P : Option Int → Prop) : Prop := ∀ (S0 J : Ad) (σ : L2.St) (H : Hp), Rel K T S0 J Γ σ H → XOk K T E X S0 J J H → ∀ Q : Option Int → Hp → Prop,
  (∀ (o : Option Int) (H2 : Hp), P o → Rel K T S0 J Γ σ H2 → Nx T J H H2 → Q o H2) → to σ H Q
theorem o_no {O : Option Int → Prop} (p : O none) : EO K T E X tNoPart Γ O := fun S0 J σ H r xo Q q => q none H p r .refl
theorem o_at {O : Option Int → Prop} (h : EX K T E X ta Γ fun x => ∃ i, x = .int i ∧ O (some i)) : EO K T E X (tPart ta) Γ O := fun S0 J σ H r xo Q q =>
  h S0 J σ H r xo _ fun v x H2 ⟨i, ex, p⟩ r2 n2 rv => by
    subst ex
    cases rv
    exact ⟨i, rfl, q _ H2 p r2 n2⟩
theorem l_sl {A : List Dt → Prop} {tl th : TO} (ha : EB K T E X ta Γ fun x => EO K T E X tl Γ fun lo => EO K T E X th Γ fun hi => ∃ ds, x = .lst ds ∧ A (cutD ds lo hi)) : EL K T E X (tSl (uSl K) ta tl th) Γ A := fun S0 J σ H rl xo Q q =>
  ha S0 J σ H rl xo _ fun v x H2 hb r2 n2 rv => hb S0 J σ H2 r2 (xo.nx n2) _ fun lo H3 hc r3 n3 => hc S0 J σ H3 r3 (xo.nx (n2.trans n3)) _ fun hi H4 ⟨ds, ex, p⟩ r4 n4 => by
    subst ex
    have rv4 : RepB K J (Sx S0 Γ) H4 v (sqD true ds) := by
      rcases rv with rv | ⟨a, xs, ds, e1, e2, e3, e4, e5⟩
      · exact .inl ((rv.nx (r2.jS n3)).nx (r3.jS n4))
      · exact .inr ⟨a, xs, ds, e1, e2, e3, (n3.trans n4).le _ _ e4 noT_lst e3, (e5.nx (r2.jS n3)).nx (r3.jS n4)⟩
    obtain ⟨xs, ⟨a, e, h⟩, rr⟩ := rv4.seq
    subst e
    obtain ⟨_, h⟩ := h.resolve_right fun z => nomatch z.1
    refine .inl ⟨a, xs, rfl, h, fun l hl => ?_⟩
    have n5 : ∀ {S : Ad}, Nx T S H4 (upd H4 l (.lst (cutV xs lo hi))) := fun {S} => .new hl noT_lst
    exact q _ _ _ _ p (r4.nx n5) (((n2.trans n3).trans n4).trans n5) (n2.dom _ (n3.dom _ (n4.dom _ (.of hl)))) upd_same ((rr.cut lo hi).anew (T := T) hl noT_lst)
/-! ### lists together -/
/-- .. where one half is but read -/
def EM (K : Fg) (T : Tbl) (E : XK) (X : XP) (te : TE) (Γ : List Ent) (P : List Dt → Prop) : Prop := ∀ (S0 J : Ad) (σ : L2.St) (H : Hp), Rel K T S0 J Γ σ H → XOk K T E X S0 J J H → ∀ Q : VK,
  (∀ (p : Addr) (xs : List V) (ds : List Dt) (H2 : Hp), P ds → Rel K T S0 J Γ σ H2 → Nx T J H H2 → ¬ J p → H2 p = some (.lst xs) → RepL K (Sx S0 Γ) H2 xs ds → Q (.ref p) H2) → te σ H Q
theorem EL.em {A : List Dt → Prop} (h : EL K T E X te Γ A) : EM K T E X te Γ A := fun S0 J σ H r xo Q q => h S0 J σ H r xo Q fun p xs ds H2 a r2 n2 f e l => q p xs ds H2 a r2 n2 (fun z => r.fresh f (.inl (r.js _ z))) e (l.sub (.of Rj.sub))
theorem m_own {A : List Dt → Prop} {i : Nat} {a : Addr} {ds : List Dt} (h : Γ[i]? = some (.own a ds)) (p : A ds) : EM K T E X (tVar i) Γ A := fun S0 J σ H r xo Q q => by
  obtain ⟨e, xs, e2, rl⟩ := r.getO h
  exact ⟨_, e, q _ _ _ H p r .refl (fun z => r.os a (mem_owned h) (r.js _ z)) e2 rl⟩
theorem l_catM {A : List Dt → Prop} (ha : EM K T E X ta Γ fun xs => EM K T E X tb Γ fun ys => xs.length + ys.length ≤ sizeLine ∧ A (xs ++ ys)) : EL K T E X (tOp (uAdd K) ta tb) Γ A := fun S0 J σ H rl xo Q q =>
  ha S0 J σ H rl xo _ fun p1 x1 d1 H2 hb r2 n2 f1 e1 l1 => hb S0 J σ H2 r2 (xo.nx n2) _ fun p2 x2 d2 H3 ⟨hz, p⟩ r3 n3 f2 e2 l2 => by
    have e3 : H3 p1 = some (.lst x1) := n3.le _ _ e1 noT_lst f1
    refine .inr (.inr (.inl ⟨p1, p2, x1, x2, rfl, rfl, e3, e2, by rw [l1.len, l2.len]; exact hz, fun l hl => ?_⟩))
    have n5 : ∀ {S : Ad}, Nx T S H3 (upd H3 l (.lst (x1 ++ x2))) := fun {S} => .new hl noT_lst
    exact q _ _ _ _ p (r3.nx n5) ((n2.trans n3).trans n5) (n2.dom _ (n3.dom _ (.of hl))) upd_same ((RepL.app (l1.nx (r2.jS n3)) l2).anew (T := T) hl noT_lst)
theorem RepL.rep {vs : List V} {ds : List Dt} (r : RepL K S H vs ds) : ∀ n : Nat, RepL K S H (List.replicate n vs).flatten (List.replicate n ds).flatten
  | 0 => .nil
  | n + 1 => by
    rw [List.replicate_succ, List.replicate_succ, List.flatten_cons, List.flatten_cons]
    exact r.app (r.rep n)
theorem l_rep {A : List Dt → Prop} (ha : EM K T E X ta Γ fun xs => EX K T E X tb Γ fun y => ∃ k, y = .int k ∧ -(2 ^ 63) ≤ k ∧ k < 2 ^ 63 ∧ xs.length * k.toNat ≤ sizeLine ∧ A (List.replicate k.toNat xs).flatten) : EL K T E X (tOp uMul ta tb) Γ A := fun S0 J σ H rl xo Q q =>
  ha S0 J σ H rl xo _ fun p1 x1 d1 H2 hb r2 n2 f1 e1 l1 => hb S0 J σ H2 r2 (xo.nx n2) _ fun w y H3 ⟨k, ey, k1, k2, hz, p⟩ r3 n3 rw' => by
    subst ey
    cases rw'
    have e3 : H3 p1 = some (.lst x1) := n3.le _ _ e1 noT_lst f1
    refine .inr (.inr ⟨p1, k, x1, rfl, rfl, e3, k1, k2, by rw [l1.len]; exact hz, fun l hl => ?_⟩)
    have n5 : ∀ {S : Ad}, Nx T S H3 (upd H3 l (.lst (List.replicate k.toNat x1).flatten)) := fun {S} => .new hl noT_lst
    exact q _ _ _ _ p (r3.nx n5) ((n2.trans n3).trans n5) (n2.dom _ (n3.dom _ (.of hl))) upd_same (((l1.nx (r2.jS n3)).rep _).anew (T := T) hl noT_lst)
theorem RepL.rev {vs : List V} {ds : List Dt} (r : RepL K S H vs ds) : RepL K S H vs.reverse ds.reverse := by
  induction vs generalizing ds with
  | nil => cases r; exact .nil
  | cons v vs ih =>
    cases r with
    | cons h r =>
      rw [List.reverse_cons, List.reverse_cons]
      exact (ih r).app (.cons h .nil)
theorem l_revL {A : List Dt → Prop} (ha : EB K T E X ta Γ fun x => ∃ ds, x = .lst ds ∧ A ds.reverse) : EL K T E X (tRevL K ta) Γ A := fun S0 J σ H rl xo Q q =>
  ha S0 J σ H rl xo _ fun v x H2 ⟨ds, ex, p⟩ r2 n2 rv => by
    subst ex
    obtain ⟨xs, ⟨a, e, h⟩, rr⟩ := RepB.seq (b := true) rv
    obtain ⟨_, h⟩ := h.resolve_right fun z => nomatch z.1
    refine ⟨a, xs, e, h, fun l hl => ?_⟩
    have n3 : ∀ {S : Ad}, Nx T S H2 (upd H2 l (.lst xs.reverse)) := fun {S} => .new hl noT_lst
    exact q _ _ _ _ p (r2.nx n3) (n2.trans n3) (n2.dom _ (.of hl)) upd_same (rr.rev.anew (T := T) hl noT_lst)
/-! ### types -/
/-- the built-in type's name -/
def tyD : Dt → Option String
  | .non => some "NoneType"
  | .bl _ => some "bool"
  | .int _ => some "int"
  | .str _ => some "str"
  | .tup _ => some "tuple"
  | .lst _ => some "list"
  | .dct _ => some "dict"
  | .obj _ _ => none
theorem Rep.ty {v : V} {d : Dt} {n : String} (h : Rep K S H v d) (e : tyD d = some n) : TyX K H v (.type n) := by
  cases h with
  | non => cases e; exact .base .non
  | bl b => cases e; exact .base (.bl b)
  | int i => cases e; exact .base (.int i)
  | str s => cases e; exact .base (.str s)
  | tup h _ =>
    cases e
    rcases h with ⟨_, h | ⟨o, h⟩⟩ | ⟨o, its, m, h, hc, _⟩
    · exact .base (.tup h)
    · exact .fTuple h
    · exact .kTuple h hc
  | lst h _ =>
    cases e
    rcases h with ⟨_, h | ⟨o, h⟩⟩ | ⟨o, its, m, h, hc, _⟩
    · exact .base (.lst h)
    · exact .base (.frz h)
    · exact .kList h hc
  | dct _ h _ => cases e; exact .base (.dK h)
  | obj _ _ _ => cases e
theorem RepB.ty {v : V} {d : Dt} {n : String} (h : RepB K J S H v d) (e : tyD d = some n) : TyX K H v (.type n) := by
  rcases h with h | ⟨a, xs, ds, rfl, rfl, _, e2, _⟩
  · exact h.ty e
  · cases e; exact .base (.lst e2)
theorem x_isi {c : String} (ha : EB K T E X ta Γ fun x => ∃ n b, tyD x = some n ∧ kitB n c = some b ∧ P (.bl b)) : EX K T E X (tCB (rIsi K) (tCons ta (tCons (tC (.ty c)) tNil))) Γ P := fun S0 J σ H rl xo Q q =>
  ha S0 J σ H rl xo _ fun v x H2 ⟨n, b, h1, h2, p⟩ r2 n2 rv => ⟨v, .ty c, .type n, .type c, b, rfl, .ty c, rv.ty h1, kit_ty h2, q _ _ H2 p r2 n2 (.bl _)⟩
theorem x_isi2 {c c' : String} (ha : EX K T E X ta Γ fun x => ∃ n b b', tyD x = some n ∧ kitB n c = some b ∧ kitB n c' = some b' ∧ P (.bl (b || b'))) :
    EX K T E X (tCB (rIsiT K) (tCons ta (tCons (tTup (tCons (tC (.ty c)) (tCons (tC (.ty c')) tNil))) tNil))) Γ P := fun S0 J σ H rl xo Q q =>
  ha S0 J σ H rl xo _ fun v x H2 ⟨n, b, b', h1, h2, h3, p⟩ r2 n2 rv => ⟨by show 2 ≤ sizeLine; decide, fun a hn => by
    have n3 : ∀ {S : Ad}, Nx T S H2 (upd H2 a (.tup [.ty c, .ty c'])) := fun {S} => .new hn noT_tup
    refine ⟨v, a, [.ty c, .ty c'], .type n, [.type c, .type c'], b || b', rfl, upd_same, .cons (.ty c) (.cons (.ty c') .nil), (rv.nx n3).ty h1, ?_, q _ _ _ p (r2.nx n3) (n2.trans n3) (.bl _)⟩
    have e1 := kit_ty (K := K) h2
    have e2 := kit_ty (K := K) h3
    cases b <;> cases b' <;> simp [PySem.W.kitAny, e1, e2]⟩
/-! ### all, sorted -/
theorem RepL.bools {bs : List Bool} : ∀ {vs : List V}, RepL K S H vs (bs.map Dt.bl) → vs = bs.map V.bl := by
  induction bs with
  | nil => intro vs r; cases r; rfl
  | cons b bs ih =>
    intro vs r
    cases r with
    | cons h r => cases h; rw [ih r]; rfl
theorem RepL.strs {bs : List Str} : ∀ {vs : List V}, RepL K S H vs (bs.map Dt.str) → vs = bs.map V.str := by
  induction bs with
  | nil => intro vs r; cases r; rfl
  | cons b bs ih =>
    intro vs r
    cases r with
    | cons h r => cases h; rw [ih r]; rfl
theorem RepL.ofStrs : ∀ {bs : List Str}, RepL K S H (bs.map V.str) (bs.map Dt.str)
  | [] => .nil
  | _ :: _ => .cons (.str _) RepL.ofStrs
theorem x_all (ha : EB K T E X ta Γ fun x => ∃ bs : List Bool, x = .lst (bs.map Dt.bl) ∧ P (.bl (bs.all id))) : EX K T E X (tCB (rAll K) (tCons ta tNil)) Γ P :=
  x_b1 (ha.imp fun x ⟨bs, ex, p⟩ S0 J σ H v rl rv Q q => by
    subst ex
    obtain ⟨xs, ⟨a, e, h⟩, rr⟩ := RepB.seq (b := true) rv
    obtain ⟨_, h⟩ := h.resolve_right fun z => nomatch z.1
    rw [rr.bools] at h
    exact ⟨a, bs, by rw [e], h, q _ _ H p rl .refl (.bl _)⟩)
theorem x_any (ha : EB K T E X ta Γ fun x => ∃ bs : List Bool, x = .lst (bs.map Dt.bl) ∧ P (.bl (bs.any id))) : EX K T E X (tCB (rAny K) (tCons ta tNil)) Γ P :=
  x_b1 (ha.imp fun x ⟨bs, ex, p⟩ S0 J σ H v rl rv Q q => by
    subst ex
    obtain ⟨xs, ⟨a, e, h⟩, rr⟩ := RepB.seq (b := true) rv
    obtain ⟨_, h⟩ := h.resolve_right fun z => nomatch z.1
    rw [rr.bools] at h
    exact ⟨a, bs, by rw [e], h, q _ _ H p rl .refl (.bl _)⟩)
theorem l_sortS {A : List Dt → Prop} (ha : EB K T E X ta Γ fun x => ∃ xs : List Str, x = .lst (xs.map Dt.str) ∧ xs.length < 64 ∧ ∀ ys : List Str, ys.Perm xs → sortedS ys = true → A (ys.map Dt.str)) : EL K T E X (tCB (rSortedS K) (tCons ta tNil)) Γ A := fun S0 J σ H rl xo Q q =>
  ha S0 J σ H rl xo _ fun v x H2 ⟨zs, ex, hz, p⟩ r2 n2 rv => by
    subst ex
    obtain ⟨xs, ⟨a, e, h⟩, rr⟩ := RepB.seq (b := true) rv
    obtain ⟨_, h⟩ := h.resolve_right fun z => nomatch z.1
    rw [rr.strs] at h
    refine ⟨a, zs, by rw [e], h, hz, fun ys l hp hs hl => ?_⟩
    have n3 : ∀ {S : Ad}, Nx T S H2 (upd H2 l (.lst (ys.map V.str))) := fun {S} => .new hl noT_lst
    exact q _ _ _ _ (p ys hp hs) (r2.nx n3) (n2.trans n3) (n2.dom _ (.of hl)) upd_same RepL.ofStrs
/-! ### a < b < c -/
theorem x_chain2 {g h : Int → Int → Bool} {r r' : R2} (hr : ∀ i j H Q, Q (.bl (g i j)) H → r (.int i) (.int j) H Q) (hr' : ∀ i j H Q, Q (.bl (h i j)) H → r' (.int i) (.int j) H Q)
    (ha : EX K T E X ta Γ fun x => EX K T E X tb Γ fun y => ∃ i j, x = .int i ∧ y = .int j ∧ (g i j = true → EX K T E X tc Γ fun z => ∃ k, z = .int k ∧ P (.bl (h j k))) ∧ (g i j = false → P (.bl false))) :
    EX K T E X (tChain r r' ta tb tc) Γ P := fun S0 J σ H rl xo Q q =>
  ha S0 J σ H rl xo _ fun v x H2 hb r2 n2 rv => hb S0 J σ H2 r2 (xo.nx n2) _ fun w y H3 ⟨i, j, ex, ey, h1, h2⟩ r3 n3 rw' => by
    subst ex; subst ey
    cases rv; cases rw'
    refine hr i j H3 _ ⟨g i j, rfl, ?_⟩
    cases hg : g i j with
    | true =>
      rw [if_pos rfl]
      refine h1 hg S0 J σ H3 r3 (xo.nx (n2.trans n3)) _ fun z d H4 ⟨k, ez, p⟩ r4 n4 rz => ?_
      subst ez
      cases rz
      exact hr' j k H4 _ (q _ _ H4 p r4 ((n2.trans n3).trans n4) (.bl _))
    | false =>
      rw [if_neg (by simp)]
      exact q _ _ H3 (h2 hg) r3 (n2.trans n3) (.bl _)
end
end Lp

set_option Elab.async false
set_option linter.all false
set_option maxRecDepth 100000
set_option maxHeartbeats 4000000
/-! L8: statements over data; targets, walks, comprehensions, calls, defs. Own work. -/
namespace Lp
open PySem PySem.Spec PyProof.Rows L2 LamX
/-- what a def gives: data; a new list that nobody else holds; a new pair of data and such a list -/
inductive Rt where
  | val (d : Dt) | new (ds : List Dt) | pair (d : Dt) (ds : List Dt)
def Rt.dt : Rt → Dt
  | .val d => d
  | .new ds => .lst ds
  | .pair d ds => .tup [d, .lst ds]
/-- O: what stood there when the def began (but for its own lists) -/
def RepR (K : Fg) (S O : Ad) (H : Hp) (v : V) : Rt → Prop
  | .val d => Rep K S H v d
  | .new ds => ∃ p xs, v = .ref p ∧ ¬ S p ∧ O p ∧ H p = some (.lst xs) ∧ RepL K (Rj S p) H xs ds
  | .pair d ds => ∃ t w p xs, v = .ref t ∧ ¬ S t ∧ H t = some (.tup [w, .ref p]) ∧ t ≠ p ∧ ¬ S p ∧ O p ∧ H p = some (.lst xs) ∧ Rep K (Rj S p) H w d ∧ RepL K (Rj S p) H xs ds
def Og (Γ : List Ent) (H : Hp) : Ad := fun p => p ∈ owned Γ ∨ Fre H p
section
variable {K : Fg} {T : Tbl} {E : XK} {X : XP} {S S' S0 J O O' : Ad} {H H1 H2 : Hp} {Γ Γ1 Γ' : List Ent} {σ σ' : L2.St}
theorem RepR.rep {v : V} : ∀ {r : Rt}, RepR K S O H v r → Rep K S H v r.dt
  | .val _, h => h
  | .new _, ⟨p, xs, e, h1, _, h2, h3⟩ => by rw [e]; exact .lst (.inl ⟨h1, .inl h2⟩) (h3.sub (.of Rj.sub))
  | .pair _ _, ⟨t, w, p, xs, e, h0, h1, _, h2, _, h3, h4, h5⟩ => by
    rw [e]
    exact .tup (.inl ⟨h0, .inl h1⟩) (.cons (h4.sub (.of Rj.sub)) (.cons (.lst (.inl ⟨h2, .inl h3⟩) (h5.sub (.of Rj.sub))) .nil))
theorem RepR.mono {v : V} (h : ∀ a, O a → O' a) : ∀ {r : Rt}, RepR K S O H v r → RepR K S O' H v r
  | .val _, q => q
  | .new _, ⟨p, xs, e, h1, ho, h2⟩ => ⟨p, xs, e, h1, h p ho, h2⟩
  | .pair _ _, ⟨t, w, p, xs, e, h0, h1, hn, h2, ho, h3⟩ => ⟨t, w, p, xs, e, h0, h1, hn, h2, h p ho, h3⟩
theorem Og.go (g : Go T J Γ H Γ' H1) : ∀ a, Og Γ' H1 a → Og Γ H a := fun a h => by
  rcases h with h | h
  · exact g.own a h
  · exact .inr (g.nx.dom a h)
/-- a statement, over data -/
def SW (K : Fg) (T : Tbl) (E : XK) (X : XP) (ts : TS) (Γ : List Ent) (N : List Ent → Prop) (R : Rt → List Ent → Prop) (B C : List Ent → Prop) : Prop := ∀ (S0 J : Ad) (σ : L2.St) (H : Hp), Rel K T S0 J Γ σ H → XOk K T E X S0 J (Sx J Γ) H → ∀ D : Ends,
  (∀ Γ' σ' H', N Γ' → Rel K T S0 J Γ' σ' H' → Go T J Γ H Γ' H' → D.nx σ' H') →
  (∀ r v Γ' σ' H', R r Γ' → Rel K T S0 J Γ' σ' H' → Go T J Γ H Γ' H' → RepR K S0 (Og Γ H) H' v r → D.rt v H') →
  (∀ Γ' σ' H', B Γ' → Rel K T S0 J Γ' σ' H' → Go T J Γ H Γ' H' → D.bk σ' H') →
  (∀ Γ' σ' H', C Γ' → Rel K T S0 J Γ' σ' H' → Go T J Γ H Γ' H' → D.ct σ' H') → ts D σ H
variable {N N' : List Ent → Prop} {R : Rt → List Ent → Prop} {B C : List Ent → Prop} {ts tu : TS} {te ta tb : TE} {tt : TT} {tr : TA} {P : Dt → Prop}
theorem Rel.go (r : Rel K T S0 J Γ σ H) (n : Nx T J H H1) : Go T J Γ H Γ H1 := ⟨n.mono fun _ z => .inl z, fun p h => .inl h⟩
theorem s_next (p : N Γ) : SW K T E X tNext Γ N R B C := fun S0 J σ H r xo D n _ _ _ => n Γ σ H p r .refl
theorem s_pass (p : N Γ) : SW K T E X tNext Γ N R B C := s_next p
theorem s_brk (p : B Γ) : SW K T E X tBreak Γ N R B C := fun S0 J σ H r xo D _ _ b _ => b Γ σ H p r .refl
theorem s_ct (p : C Γ) : SW K T E X tCont Γ N R B C := fun S0 J σ H r xo D _ _ _ c => c Γ σ H p r .refl
theorem s_seq (h : SW K T E X ts Γ (fun Γ' => SW K T E X tu Γ' N R B C) R B C) : SW K T E X (tSeq ts tu) Γ N R B C := fun S0 J σ H r xo D n rt b c =>
  h S0 J σ H r xo _ (fun Γ1 σ1 H1 q r1 g1 => q S0 J σ1 H1 r1 (xo.go g1) D (fun Γ2 σ2 H2 a r2 g2 => n Γ2 σ2 H2 a r2 (g1.trans g2)) (fun rr v Γ2 σ2 H2 a r2 g2 z => rt rr v Γ2 σ2 H2 a r2 (g1.trans g2) (z.mono (Og.go g1)))
    (fun Γ2 σ2 H2 a r2 g2 => b Γ2 σ2 H2 a r2 (g1.trans g2)) (fun Γ2 σ2 H2 a r2 g2 => c Γ2 σ2 H2 a r2 (g1.trans g2))) rt b c
theorem s_if (h : ET K T E X tt Γ fun b => (b = true → SW K T E X ts Γ N R B C) ∧ (b = false → SW K T E X tu Γ N R B C)) : SW K T E X (tIfS tt ts tu) Γ N R B C := fun S0 J σ H r xo D n rt b c =>
  h S0 J σ H r xo.ex _ fun k H1 q r1 n1 => by
    have g1 := r.go n1
    cases k with
    | true =>
      show ts D σ H1
      exact q.1 rfl S0 J σ H1 r1 (xo.nxs n1) D (fun Γ2 σ2 H2 a r2 g2 => n Γ2 σ2 H2 a r2 (g1.trans g2)) (fun rr v Γ2 σ2 H2 a r2 g2 z => rt rr v Γ2 σ2 H2 a r2 (g1.trans g2) (z.mono (Og.go g1)))
        (fun Γ2 σ2 H2 a r2 g2 => b Γ2 σ2 H2 a r2 (g1.trans g2)) (fun Γ2 σ2 H2 a r2 g2 => c Γ2 σ2 H2 a r2 (g1.trans g2))
    | false =>
      show tu D σ H1
      exact q.2 rfl S0 J σ H1 r1 (xo.nxs n1) D (fun Γ2 σ2 H2 a r2 g2 => n Γ2 σ2 H2 a r2 (g1.trans g2)) (fun rr v Γ2 σ2 H2 a r2 g2 z => rt rr v Γ2 σ2 H2 a r2 (g1.trans g2) (z.mono (Og.go g1)))
        (fun Γ2 σ2 H2 a r2 g2 => b Γ2 σ2 H2 a r2 (g1.trans g2)) (fun Γ2 σ2 H2 a r2 g2 => c Γ2 σ2 H2 a r2 (g1.trans g2))
theorem Sx.sub0 : ∀ b, S0 b → Sx S0 Γ b := fun _ h => .inl h
theorem s_ret (h : EX K T E X te Γ fun d => R (.val d) Γ) : SW K T E X (tRet te) Γ N R B C := fun S0 J σ H r xo D n rt b c =>
  h S0 J σ H r xo.ex _ fun v d H1 p r1 n1 rv => rt (.val d) v Γ σ H1 p r1 (r.go n1) (rv.sub (.of Sx.sub0))
theorem s_retN (p : R (.val .non) Γ) : SW K T E X tRetN Γ N R B C := fun S0 J σ H r xo D n rt b c => rt (.val .non) .non Γ σ H p r .refl .non
/-- a list of the def's own is given out -/
theorem s_retO {i : Nat} {a : Addr} {ds : List Dt} (h : Γ[i]? = some (.own a ds)) (p : R (.new ds) Γ) : SW K T E X (tRet (tVar i)) Γ N R B C := fun S0 J σ H r xo D n rt b c => by
  obtain ⟨e, xs, e2, rl⟩ := r.getO h
  refine ⟨_, e, rt (.new ds) _ Γ σ H p r .refl ⟨a, xs, rfl, r.os a (mem_owned h), .inl (mem_owned h), e2, rl.sub (.of fun b z => ?_)⟩⟩
  rcases z with z | z
  · exact .inl z
  · rw [z]; exact .inr (mem_owned h)
theorem s_drop (h : EX K T E X te Γ fun _ => N Γ) : SW K T E X (tDrop te) Γ N R B C := fun S0 J σ H r xo D n rt b c =>
  h S0 J σ H r xo.ex _ fun v d H1 p r1 n1 rv => n Γ σ H1 p r1 (r.go n1)
theorem Go.setV {i : Nat} {d : Dt} : Go T J Γ H (Γ.set i (.val d)) H := ⟨.refl, fun p h => by
  rcases owned_set Γ p h with q | q
  · exact .inl q
  · cases q⟩
theorem s_asg {i : Nat} (h : EX K T E X te Γ fun d => N (Γ.set i (.val d))) : SW K T E X (tAsg te (gName i)) Γ N R B C := fun S0 J σ H r xo D n rt b c =>
  h S0 J σ H r xo.ex _ fun v d H1 p r1 n1 rv => n _ _ H1 p (r1.setV rv) ((r.go n1).trans Go.setV)
/-- a new list at slot i -/
theorem Rel.newO {i : Nat} {p : Addr} {xs : List V} {ds : List Dt} (r : Rel K T S0 J Γ σ H) (hz : S0 p → False) (h2 : p ∉ owned Γ) (hp : H p = some (.lst xs)) (hx : RepL K (Rj (Sx S0 Γ) p) H xs ds)
    (fr : ∀ (k : Nat) (o : Option V) (e : Ent), σ[k]? = some o → Γ[k]? = some e → At K J (Rj (Sx S0 Γ) p) H o e) : Rel K T S0 J (Γ.set i (.own p ds)) (σ.set i (some (.ref p))) H := by
  have sub : ∀ b, Sx S0 (Γ.set i (.own p ds)) b → Rj (Sx S0 Γ) p b := fun b z => by
    rcases z with z | z
    · exact .inl (.inl z)
    · rcases owned_set Γ b z with q | q
      · exact .inl (.inr q)
      · exact .inr (List.mem_singleton.mp q)
  refine r.setO hp (hx.sub (.of sub)) hz h2 fun k o e _ g1 g2 => ?_
  have q := fr k o e g1 g2
  cases e with
  | emp => trivial
  | val d => obtain ⟨v, e1, e2⟩ := q; exact ⟨v, e1, e2.sub (.of sub)⟩
  | own p ds => obtain ⟨e1, xs, e2, e3⟩ := q; exact ⟨e1, xs, e2, e3.sub (.of sub)⟩
  | owk p ds => obtain ⟨e1, xs, e2, e3⟩ := q; exact ⟨e1, xs, e2, e3.sub (.of sub)⟩
  | owo p C dx ds => obtain ⟨e1, xs, e2, e3⟩ := q; exact ⟨e1, xs, e2, e3.sub (.of sub)⟩
  | jar j => exact q
/-- what is told of slots where p is new: p is not met -/
theorem Rel.notNew {p : Addr} (r : Rel K T S0 J Γ σ H) (hp : Fre H p) (n : Nx T J H H1) : ∀ (k : Nat) (o : Option V) (e : Ent), σ[k]? = some o → Γ[k]? = some e → At K J (Rj (Sx S0 Γ) p) H1 o e := fun k o e g1 g2 => by
  have q := r.at_ k o e g1 g2
  have s : Sub (Sx S0 Γ) (Rj (Sx S0 Γ) p) H := Rj.new hp
  have n' : Nx T (Rj (Sx S0 Γ) p) H H1 := n.mono fun b z => .inl (.inl (r.js b z))
  cases e with
  | emp => trivial
  | val d => obtain ⟨v, e1, e2⟩ := q; exact ⟨v, e1, (e2.sub s).nx n'⟩
  | own p ds => obtain ⟨e1, xs, e2, e3⟩ := q; exact ⟨e1, xs, n.le _ _ e2 noT_lst fun z => r.os _ (mem_owned g2) (r.js _ z), (e3.sub s).nx n'⟩
  | owk p ds => obtain ⟨e1, xs, e2, e3⟩ := q; exact ⟨e1, xs, n.le _ _ e2 noT_dK fun z => r.os _ (mem_ownedK g2) (r.js _ z), (e3.sub s).nx n'⟩
  | owo p C dx ds => obtain ⟨e1, xs, e2, e3⟩ := q; exact ⟨e1, xs, n.le _ _ e2 noT_ins fun z => r.os _ (mem_ownedO g2) (r.js _ z), (e3.sub s).nx n'⟩
  | jar j => exact q
theorem Rel.newNot {p : Addr} (r : Rel K T S0 J Γ σ H) (hp : Fre H p) : p ∉ owned Γ := fun z => r.fresh hp (.inr z)
theorem Go.newO {i : Nat} {p : Addr} {ds : List Dt} (n : Nx T J H H1) (hp : Fre H p) : Go T J Γ H (Γ.set i (.own p ds)) H1 := ⟨n.mono fun _ z => .inl z, fun q hq => by
    rcases owned_set Γ q hq with z | z
    · exact .inl z
    · rw [List.mem_singleton.mp z]; exact .inr hp⟩
theorem s_asgO {i : Nat} (h : EL K T E X te Γ fun ds => ∀ p, p ∉ owned Γ → N (Γ.set i (.own p ds))) : SW K T E X (tAsg te (gName i)) Γ N R B C := fun S0 J σ H r xo D n rt b c =>
  h S0 J σ H r xo.ex _ fun p xs ds H2 a r2 n2 h1 h2 rl => n _ _ H2 (a p (r.newNot h1)) (r2.newO (fun z => r.wf p z h1) (r.newNot h1) h2 rl (r.notNew h1 n2)) (.newO n2 h1)
end
end Lp

set_option Elab.async false
set_option linter.all false
set_option maxRecDepth 100000
set_option maxHeartbeats 4000000
/-! L9: lists of the def's own change; targets; walks; comprehensions. Own work. -/
namespace Lp
open PySem PySem.Spec PyProof.Rows L2 LamX
section
variable {K : Fg} {T : Tbl} {E : XK} {X : XP} {S S' S0 J O O' : Ad} {H H1 H2 : Hp} {Γ Γ1 Γ' : List Ent} {σ σ' : L2.St}
variable {N N' : List Ent → Prop} {R : Rt → List Ent → Prop} {B C : List Ent → Prop} {ts tu : TS} {te ta tb : TE} {tt : TT} {tr : TA} {P : Dt → Prop} {A : List Dt → Prop}
theorem owned_same : ∀ {Γ : List Ent} {i : Nat} {e e' : Ent}, Γ[i]? = some e → ownA e' = ownA e → owned (Γ.set i e') = owned Γ
  | [], _, _, _, h, _ => by cases h
  | x :: Γ, 0, e, e', h, q => by
    cases h
    show ownA e' ++ owned Γ = ownA x ++ owned Γ
    rw [q]
  | x :: Γ, i + 1, e, e', h, q => by
    show ownA x ++ owned (Γ.set i e') = ownA x ++ owned Γ
    rw [owned_same (by simpa using h) q]
theorem owned_own {i : Nat} {p : Addr} {ds ds' : List Dt} (h : Γ[i]? = some (.own p ds)) : owned (Γ.set i (.own p ds')) = owned Γ := owned_same (e' := .own p ds') h rfl
theorem Sx.same {i : Nat} {p : Addr} {ds ds' : List Dt} (h : Γ[i]? = some (.own p ds)) : Sx S0 (Γ.set i (.own p ds')) = Sx S0 Γ := by
  unfold Sx
  rw [owned_own h]
/-- the list at slot i gets other items -/
theorem Rel.chO {i : Nat} {p : Addr} {ds ds' : List Dt} {xs' : List V} (r : Rel K T S0 J Γ σ H) (h : Γ[i]? = some (.own p ds)) (hx : RepL K (Sx S0 Γ) H xs' ds') : Rel K T S0 J (Γ.set i (.own p ds')) σ (upd H p (.lst xs')) := by
  obtain ⟨es, xs, ep, rl⟩ := r.getO h
  have hm := mem_owned h
  have n : Nx T (Sx S0 Γ) H (upd H p (.lst xs')) := .put (.inr hm) ep trivial
  have hns : ¬ S0 p := r.os p hm
  have nS : Nx T (fun a => a = p) H (upd H p (.lst xs')) := .put rfl ep trivial
  refine ⟨r.js, fun a ha => (r.jr a ha).nx nS fun z => hns (by rw [← z]; exact r.js _ ha), fun a ha z => r.wf a ha (nS.dom a z), nS.tab r.tb, by rw [owned_own h]; exact r.nd, by rw [owned_own h]; exact r.os, by rw [List.length_set]; exact r.len, fun k o e h1 h2 => ?_⟩
  rw [Sx.same h]
  by_cases hk : k = i
  · subst hk
    have hl := (List.getElem?_eq_some_iff.mp h2).1
    rw [List.length_set] at hl
    rw [List.getElem?_set_self hl] at h2
    cases h2
    rw [es] at h1
    cases h1
    exact ⟨rfl, xs', upd_same, hx.nx n⟩
  · rw [List.getElem?_set_ne (Ne.symm hk)] at h2
    have q := r.at_ k o e h1 h2
    cases e with
    | emp => trivial
    | val d => obtain ⟨v, e1, e2⟩ := q; exact ⟨v, e1, e2.nx n⟩
    | own b bs =>
      obtain ⟨e1, xs, e2, e3⟩ := q
      have hne : b ≠ p := fun z => by
        subst z
        exact nd_two r.nd h h2 (Ne.symm hk)
      exact ⟨e1, xs, by rw [upd_ne hne]; exact e2, e3.nx n⟩
    | owk b bs =>
      obtain ⟨e1, xs, e2, e3⟩ := q
      have hne : b ≠ p := fun z => by
        subst z
        exact nd_twoK r.nd h h2 (Ne.symm hk)
      exact ⟨e1, xs, by rw [upd_ne hne]; exact e2, e3.nx n⟩
    | owo b C dx bs =>
      obtain ⟨e1, xs, e2, e3⟩ := q
      have hne : b ≠ p := fun z => by
        subst z
        exact nd_twoO r.nd h h2 (Ne.symm hk)
      exact ⟨e1, xs, by rw [upd_ne hne]; exact e2, e3.nx n⟩
    | jar j => exact q
where
  nd_any {Γ : List Ent} {p : Addr} {e e' : Ent} (nd : (owned Γ).Nodup) {i k : Nat} (h : Γ[i]? = some e) (he : p ∈ ownA e) (h2 : Γ[k]? = some e') (he' : p ∈ ownA e') (hne : i ≠ k) : False := by
    have mem : ∀ {Γ : List Ent} {k : Nat} {e : Ent}, Γ[k]? = some e → p ∈ ownA e → p ∈ owned Γ := fun h q => List.mem_flatMap.mpr ⟨_, List.mem_of_getElem? h, q⟩
    induction Γ generalizing i k with
    | nil => cases h
    | cons x Γ ih =>
      have nd' : (ownA x ++ owned Γ).Nodup := nd
      obtain ⟨n1, n2, n3⟩ := List.nodup_append.mp nd'
      cases i with
      | zero =>
        cases k with
        | zero => exact hne rfl
        | succ k =>
          cases h
          exact n3 p he p (mem (by simpa using h2) he') rfl
      | succ i =>
        cases k with
        | zero =>
          cases h2
          exact n3 p he' p (mem (by simpa using h) he) rfl
        | succ k => exact ih n2 (by simpa using h) (by simpa using h2) fun z => hne (by rw [z])
  nd_two {Γ : List Ent} {p : Addr} {ds ds' : List Dt} (nd : (owned Γ).Nodup) {i k : Nat} (h : Γ[i]? = some (.own p ds)) (h2 : Γ[k]? = some (.own p ds')) (hne : i ≠ k) : False := nd_any nd h (List.mem_singleton.mpr rfl) h2 (List.mem_singleton.mpr rfl) hne
  nd_twoK {Γ : List Ent} {p : Addr} {ds : List Dt} {ds' : List (Key × Dt)} (nd : (owned Γ).Nodup) {i k : Nat} (h : Γ[i]? = some (.own p ds)) (h2 : Γ[k]? = some (.owk p ds')) (hne : i ≠ k) : False := nd_any nd h (List.mem_singleton.mpr rfl) h2 (List.mem_singleton.mpr rfl) hne
  nd_twoO {Γ : List Ent} {p C dx : Addr} {ds : List Dt} {l : List (Str × Dt)} (nd : (owned Γ).Nodup) {i k : Nat} (h : Γ[i]? = some (.own p ds)) (h2 : Γ[k]? = some (.owo p C dx l)) (hne : i ≠ k) : False := nd_any nd h (List.mem_singleton.mpr rfl) h2 (List.mem_singleton.mpr rfl) hne
theorem Go.chO {i : Nat} {p : Addr} {ds ds' : List Dt} {xs' : List V} (r : Rel K T S0 J Γ σ H) (h : Γ[i]? = some (.own p ds)) : Go T J Γ H (Γ.set i (.own p ds')) (upd H p (.lst xs')) := by
  obtain ⟨es, xs, ep, rl⟩ := r.getO h
  exact ⟨.put (.inr (mem_owned h)) ep trivial, fun q hq => .inl (by rw [owned_own h] at hq; exact hq)⟩
/-- a list of the def's own is from now on data -/
theorem Rel.forget {i : Nat} {p : Addr} {ds : List Dt} (r : Rel K T S0 J Γ σ H) (h : Γ[i]? = some (.own p ds)) : Rel K T S0 J (Γ.set i (.val (.lst ds))) σ H := by
  obtain ⟨es, xs, ep, rl⟩ := r.getO h
  have nin : p ∉ owned (Γ.set i (.val (.lst ds))) := fun z => by
    obtain ⟨e, he, hp⟩ := List.mem_flatMap.mp z
    obtain ⟨k, hk⟩ := List.getElem?_of_mem he
    by_cases hki : k = i
    · subst hki
      have hl := (List.getElem?_eq_some_iff.mp hk).1
      rw [List.length_set] at hl
      rw [List.getElem?_set_self hl] at hk
      cases hk
      cases hp
    · rw [List.getElem?_set_ne (Ne.symm hki)] at hk
      cases e with
      | own b bs =>
        have : p = b := List.mem_singleton.mp hp
        subst this
        exact Rel.chO.nd_two r.nd h hk (Ne.symm hki)
      | owk b bs =>
        have : p = b := List.mem_singleton.mp hp
        subst this
        exact Rel.chO.nd_twoK r.nd h hk (Ne.symm hki)
      | owo b C dx bs =>
        have : p = b := List.mem_singleton.mp hp
        subst this
        exact Rel.chO.nd_twoO r.nd h hk (Ne.symm hki)
      | emp => cases hp
      | val d => cases hp
      | jar j => cases hp
  have v : Rep K (Sx S0 (Γ.set i (.val (.lst ds)))) H (.ref p) (.lst ds) := by
    refine .lst (.inl ⟨fun z => ?_, .inl ep⟩) (rl.sub (.of fun b z => ?_))
    · rcases z with z | z
      · exact r.os p (mem_owned h) z
      · exact nin z
    · rcases z with z | z
      · exact .inl z
      · rcases owned_set Γ b z with q | q
        · exact .inr q
        · cases q
  have q : σ = σ.set i (some (.ref p)) := by
    apply List.ext_getElem?
    intro k
    by_cases hki : i = k
    · subst hki
      have hl := (List.getElem?_eq_some_iff.mp es).1
      rw [List.getElem?_set_self hl]
      exact es
    · rw [List.getElem?_set_ne hki]
  have sub : ∀ b, Sx S0 (Γ.set i (.val (.lst ds))) b → Sx S0 Γ b := fun b z => by
    rcases z with z | z
    · exact .inl z
    · rcases owned_set Γ b z with q | q
      · exact .inr q
      · cases q
  refine ⟨r.js, r.jr, r.wf, r.tb, nodup_set r.nd (fun p hp => by cases hp) List.nodup_nil, fun p hp => ?_, by rw [List.length_set]; exact r.len, fun k o e h1 h2 => ?_⟩
  · rcases owned_set Γ p hp with q | q
    · exact r.os p q
    · cases q
  · by_cases hk : k = i
    · subst hk
      have hl := (List.getElem?_eq_some_iff.mp h2).1
      rw [List.length_set] at hl
      rw [List.getElem?_set_self hl] at h2
      rw [es] at h1
      cases h1; cases h2
      exact ⟨_, rfl, v⟩
    · rw [List.getElem?_set_ne (Ne.symm hk)] at h2
      have q := r.at_ k o e h1 h2
      cases e with
      | emp => trivial
      | val d => obtain ⟨v, e1, e2⟩ := q; exact ⟨v, e1, e2.sub (.of sub)⟩
      | own p ds => obtain ⟨e1, xs, e2, e3⟩ := q; exact ⟨e1, xs, e2, e3.sub (.of sub)⟩
      | owk p ds => obtain ⟨e1, xs, e2, e3⟩ := q; exact ⟨e1, xs, e2, e3.sub (.of sub)⟩
      | owo p C dx ds => obtain ⟨e1, xs, e2, e3⟩ := q; exact ⟨e1, xs, e2, e3.sub (.of sub)⟩
      | jar j => exact q
theorem s_forget {i : Nat} {p : Addr} {ds : List Dt} (h : Γ[i]? = some (.own p ds)) (q : SW K T E X ts (Γ.set i (.val (.lst ds))) N R B C) : SW K T E X ts Γ N R B C := fun S0 J σ H r xo D n rt b c => by
  have g : Go T J Γ H (Γ.set i (.val (.lst ds))) H := .setV
  exact q S0 J σ H (r.forget h) (xo.go g) D (fun Γ2 σ2 H2 a r2 g2 => n Γ2 σ2 H2 a r2 (g.trans g2)) (fun rr v Γ2 σ2 H2 a r2 g2 z => rt rr v Γ2 σ2 H2 a r2 (g.trans g2) (z.mono (Og.go g)))
    (fun Γ2 σ2 H2 a r2 g2 => b Γ2 σ2 H2 a r2 (g.trans g2)) (fun Γ2 σ2 H2 a r2 g2 => c Γ2 σ2 H2 a r2 (g.trans g2))
theorem RepL.snoc {xs : List V} {ds : List Dt} {v : V} {d : Dt} (h : RepL K S H xs ds) (g : Rep K S H v d) : RepL K S H (xs ++ [v]) (ds ++ [d]) := h.app (.cons g .nil)
theorem RepL.set {xs : List V} {ds : List Dt} {v : V} {d : Dt} (g : Rep K S H v d) : ∀ {xs : List V} {ds : List Dt} {j : Nat}, RepL K S H xs ds → RepL K S H (xs.set j v) (ds.set j d)
  | _, _, _, .nil => .nil
  | _, _, 0, .cons _ r => .cons g r
  | _, _, j + 1, .cons h r => .cons h (RepL.set (xs := xs) (ds := ds) g r)
theorem RepL.erase : ∀ {xs : List V} {ds : List Dt} {j : Nat}, RepL K S H xs ds → RepL K S H (xs.eraseIdx j) (ds.eraseIdx j)
  | _, _, _, .nil => .nil
  | _, _, 0, .cons _ r => r
  | _, _, j + 1, .cons h r => .cons h (RepL.erase r)
/-- xs.append(e) -/
theorem s_append {i : Nat} {p : Addr} {ds : List Dt} (h : Γ[i]? = some (.own p ds)) (hl : ds.length < sizeLine) (he : EX K T E X te Γ fun d => N (Γ.set i (.own p (ds ++ [d])))) :
    SW K T E X (tDrop (tBM K "list" rAppend (tVar i) (tCons te tNil))) Γ N R B C := fun S0 J σ H r xo D n rt b c => by
  obtain ⟨es, xs, ep, rl⟩ := r.getO h
  refine ⟨.ref p, es, .inl ⟨rfl, xs, .inl (.inl ep)⟩, ?_⟩
  refine he S0 J σ H r xo.ex _ fun v d H2 a r2 n2 rv => ?_
  obtain ⟨_, xs2, ep2, rl2⟩ := r2.getO h
  exact ⟨p, xs2, v, rfl, rfl, ep2, by rw [rl2.len]; exact hl, n _ _ _ a (r2.chO h (rl2.snoc rv)) ((r.go n2).trans (.chO r2 h))⟩
/-- xs.extend(e) -/
theorem s_extend {i : Nat} {p : Addr} {ds : List Dt} (h : Γ[i]? = some (.own p ds)) (he : EL K T E X te Γ fun es => ds.length + es.length ≤ sizeLine ∧ N (Γ.set i (.own p (ds ++ es)))) :
    SW K T E X (tDrop (tBM K "list" rExtend (tVar i) (tCons te tNil))) Γ N R B C := fun S0 J σ H r xo D n rt b c => by
  obtain ⟨es, xs, ep, rl⟩ := r.getO h
  refine ⟨.ref p, es, .inl ⟨rfl, xs, .inl (.inl ep)⟩, ?_⟩
  refine he S0 J σ H r xo.ex _ fun q zs ez H2 ⟨hz, a⟩ r2 n2 f2 e2 rz => ?_
  obtain ⟨_, xs2, ep2, rl2⟩ := r2.getO h
  exact ⟨p, q, xs2, zs, rfl, rfl, ep2, e2, by rw [rl2.len, rz.len]; exact hz, n _ _ _ a (r2.chO h (rl2.app (rz.sub (.of Rj.sub)))) ((r.go n2).trans (.chO r2 h))⟩
/-- ys.append(xs.pop(e)) -/
theorem s_appPop {i k : Nat} {p q : Addr} {ds es : List Dt} (hik : i ≠ k) (h : Γ[i]? = some (.own p ds)) (hk : Γ[k]? = some (.own q es)) (hl : ds.length < sizeLine)
    (he : EX K T E X te Γ fun d => ∃ (m : Int) (j : Nat) (x : Dt), d = .int m ∧ -(2 ^ 63) ≤ m ∧ m < 2 ^ 63 ∧ seqIndex? m es.length = some j ∧ es[j]? = some x ∧ N ((Γ.set k (.own q (es.eraseIdx j))).set i (.own p (ds ++ [x])))) :
    SW K T E X (tDrop (tBM K "list" rAppend (tVar i) (tCons (tBM K "list" rPopAt (tVar k) (tCons te tNil)) tNil))) Γ N R B C := fun S0 J σ H r xo D n rt b c => by
  obtain ⟨es1, xs, ep, rl⟩ := r.getO h
  obtain ⟨es2, ys, eq, rm⟩ := r.getO hk
  refine ⟨.ref p, es1, .inl ⟨rfl, xs, .inl (.inl ep)⟩, .ref q, es2, .inl ⟨rfl, ys, .inl (.inl eq)⟩, ?_⟩
  refine he S0 J σ H r xo.ex _ fun v d H2 ⟨m, j, x, ed, m1, m2, hj, hx, a⟩ r2 n2 rv => ?_
  subst ed
  cases rv
  obtain ⟨_, ys2, eq2, rm2⟩ := r2.getO hk
  obtain ⟨z, hz, rz⟩ := rm2.get hx
  refine ⟨q, ys2, m, j, z, rfl, rfl, eq2, m1, m2, by rw [rm2.len]; exact hj, hz, ?_⟩
  have r3 := r2.chO hk (rm2.erase (j := j))
  have g3 : Go T J Γ H2 (Γ.set k (.own q (es.eraseIdx j))) (upd H2 q (.lst (ys2.eraseIdx j))) := .chO r2 hk
  have h3 : (Γ.set k (.own q (es.eraseIdx j)))[i]? = some (.own p ds) := by rw [List.getElem?_set_ne (Ne.symm hik)]; exact h
  obtain ⟨_, xs3, ep3, rl3⟩ := r3.getO h3
  have rz3 : Rep K (Sx S0 (Γ.set k (.own q (es.eraseIdx j)))) (upd H2 q (.lst (ys2.eraseIdx j))) z x := by
    rw [Sx.same hk]
    exact rz.nx (T := T) (.put (.inr (mem_owned hk)) eq2 trivial)
  exact ⟨p, xs3, z, rfl, rfl, ep3, by rw [rl3.len]; exact hl, n _ _ _ a (r3.chO h3 (rl3.snoc rz3)) (((r.go n2).trans g3).trans (.chO r3 h3))⟩
/-! ### targets: L tells which slots may change -/
def SG (K : Fg) (T : Tbl) (E : XK) (X : XP) (g : TG) (d : Dt) (L : List Nat) (Γ : List Ent) (P : List Ent → Prop) : Prop := ∀ (S0 J : Ad) (σ : L2.St) (H : Hp) (v : V), Rel K T S0 J Γ σ H → XOk K T E X S0 J (Sx J Γ) H → Rep K (Sx S0 Γ) H v d → ∀ Q : L2.St → Hp → Prop,
  (∀ Γ' σ' H', P Γ' → Rel K T S0 J Γ' σ' H' → Go T J Γ H Γ' H' → (∀ k, k ∉ L → σ'[k]? = σ[k]?) → Q σ' H') → g v σ H Q
def SGs (K : Fg) (T : Tbl) (E : XK) (X : XP) (g : TGs) (ds : List Dt) (L : List Nat) (Γ : List Ent) (P : List Ent → Prop) : Prop := ∀ (S0 J : Ad) (σ : L2.St) (H : Hp) (vs : List V), Rel K T S0 J Γ σ H → XOk K T E X S0 J (Sx J Γ) H → RepL K (Sx S0 Γ) H vs ds → ∀ Q : L2.St → Hp → Prop,
  (∀ Γ' σ' H', P Γ' → Rel K T S0 J Γ' σ' H' → Go T J Γ H Γ' H' → (∀ k, k ∉ L → σ'[k]? = σ[k]?) → Q σ' H') → g vs σ H Q
/-- data go on being data as the def goes on -/
theorem Go.sub (g : Go T J Γ H Γ' H1) (js : ∀ a, J a → S0 a) : ∃ S', (∀ b, Sx S0 Γ' b → S' b) ∧ Sub (Sx S0 Γ) S' H ∧ Nx T S' H H1 := by
  refine ⟨fun a => Sx S0 Γ a ∨ a ∈ owned Γ', fun b z => ?_, ⟨fun b u hb nt nb z => ?_⟩, g.nx.mono fun b z => ?_⟩
  · rcases z with z | z
    · exact .inl (.inl z)
    · exact .inr z
  · rcases z with z | z
    · exact nb z
    · rcases g.own b z with q | q
      · exact nb (.inr q)
      · exact q u hb nt
  · rcases z with z | z
    · exact .inl (.inl (js b z))
    · exact .inl (.inr z)
theorem Go.rep (g : Go T J Γ H Γ' H1) (js : ∀ a, J a → S0 a) {v : V} {d : Dt} (h : Rep K (Sx S0 Γ) H v d) : Rep K (Sx S0 Γ') H1 v d := by
  obtain ⟨S', h1, h2, h3⟩ := g.sub js
  exact ((h.sub h2).nx h3).sub (.of h1)
theorem Go.repL (g : Go T J Γ H Γ' H1) (js : ∀ a, J a → S0 a) {v : List V} {d : List Dt} (h : RepL K (Sx S0 Γ) H v d) : RepL K (Sx S0 Γ') H1 v d := by
  obtain ⟨S', h1, h2, h3⟩ := g.sub js
  exact ((h.sub h2).nx h3).sub (.of h1)
theorem g_name {i : Nat} {d : Dt} {G : List Ent → Prop} {L : List Nat} (hi : i ∈ L) (p : G (Γ.set i (.val d))) : SG K T E X (gName i) d L Γ G := fun S0 J σ H v r xo rv Q q =>
  q _ _ H p (r.setV rv) .setV fun k hk => List.getElem?_set_ne fun z => hk (by rw [← z]; exact hi)
theorem gs_nil {G : List Ent → Prop} {L : List Nat} (p : G Γ) : SGs K T E X gNil [] L Γ G := fun S0 J σ H vs r xo rv Q q => by
  cases rv
  exact ⟨rfl, q _ _ H p r .refl fun _ _ => rfl⟩
theorem gs_cons {g : TG} {gs : TGs} {d : Dt} {ds : List Dt} {G : List Ent → Prop} {L : List Nat} (h : SG K T E X g d L Γ fun Γ' => SGs K T E X gs ds L Γ' G) : SGs K T E X (gCons g gs) (d :: ds) L Γ G := fun S0 J σ H vs r xo rv Q q => by
  cases rv with
  | @cons v _ vs _ rv rvs =>
    refine ⟨v, vs, rfl, h S0 J σ H v r xo rv _ fun Γ1 σ1 H1 a r1 g1 s1 => a S0 J σ1 H1 vs r1 (xo.go g1) (g1.repL r.js rvs) Q fun Γ2 σ2 H2 p r2 g2 s2 => q _ _ _ p r2 (g1.trans g2) fun k hk => by rw [s2 k hk, s1 k hk]⟩
theorem g_tup {gs : TGs} {ds : List Dt} {n : Nat} {G : List Ent → Prop} {L : List Nat} (hn : ds.length = n) (h : SGs K T E X gs ds L Γ G) : SG K T E X (gTup K n gs) (.tup ds) L Γ G := fun S0 J σ H v r xo rv Q q => by
  cases rv with
  | tup hs rl => exact ⟨_, _, rfl, hs.sq, by rw [rl.len]; exact hn, h S0 J σ H _ r xo rl Q q⟩
/-- xs[e] = .. -/
theorem g_sub {i : Nat} {p : Addr} {ds : List Dt} {d : Dt} {G : List Ent → Prop} {L : List Nat} (h : Γ[i]? = some (.own p ds))
    (he : EX K T E X te Γ fun y => ∃ k j, y = .int k ∧ ixN ds.length k = some j ∧ G (Γ.set i (.own p (ds.set j d)))) : SG K T E X (gSub (tVar i) te rSetL) d L Γ G := fun S0 J σ H v r xo rv Q q => by
  obtain ⟨es, xs, ep, rl⟩ := r.getO h
  refine ⟨.ref p, es, ?_⟩
  refine he S0 J σ H r xo.ex _ fun w y H2 ⟨k, j, ey, hj, a⟩ r2 n2 rw' => ?_
  subst ey
  cases rw'
  obtain ⟨_, xs2, ep2, rl2⟩ := r2.getO h
  exact ⟨p, xs2, k, j, rfl, rfl, ep2, by rw [rl2.len]; exact hj, q _ _ _ a (r2.chO h (RepL.set (xs := xs) (ds := ds) (rv.nx (r.jS n2)) rl2)) ((r.go n2).trans (.chO r2 h)) fun _ _ => rfl⟩
theorem s_asgG {g : TG} {L : List Nat} (h : EX K T E X te Γ fun d => SG K T E X g d L Γ N) : SW K T E X (tAsg te g) Γ N R B C := fun S0 J σ H r xo D n rt b c =>
  h S0 J σ H r xo.ex _ fun v d H2 a r2 n2 rv => a S0 J σ H2 v r2 (xo.nxs n2) rv _ fun Γ' σ' H3 p r3 g3 _ => n _ _ _ p r3 ((r.go n2).trans g3)
theorem s_par {i j : Nat} (h : EA K T E X tr Γ fun ds => ∃ d e, ds = [d, e] ∧ N ((Γ.set i (.val d)).set j (.val e))) : SW K T E X (tPar i j tr) Γ N R B C := fun S0 J σ H r xo D n rt b c =>
  h S0 J σ H r xo.ex _ fun vs ds H2 ⟨d, e, ed, a⟩ r2 n2 rv => by
    subst ed
    cases rv with
    | @cons v _ vs _ rv rvs =>
      cases rvs with
      | @cons w _ ws _ rw' rws =>
        cases rws
        have r3 := r2.setV (i := i) rv
        have g3 : Go T J Γ H2 (Γ.set i (.val d)) H2 := .setV
        exact ⟨v, w, rfl, n _ _ _ a (r3.setV (g3.rep r2.js rw')) (((r.go n2).trans g3).trans .setV)⟩
theorem At.sub {S S' : Ad} {o : Option V} {e : Ent} (h : ∀ b, S' b → S b) (q : At K J S H o e) : At K J S' H o e := by
  cases e with
  | emp => trivial
  | val d => obtain ⟨v, e1, e2⟩ := q; exact ⟨v, e1, e2.sub (.of h)⟩
  | own p ds => obtain ⟨e1, xs, e2, e3⟩ := q; exact ⟨e1, xs, e2, e3.sub (.of h)⟩
  | owk p ds => obtain ⟨e1, xs, e2, e3⟩ := q; exact ⟨e1, xs, e2, e3.sub (.of h)⟩
  | owo p C dx ds => obtain ⟨e1, xs, e2, e3⟩ := q; exact ⟨e1, xs, e2, e3.sub (.of h)⟩
  | jar j => exact q
/-- p came after all that is told of: from now on it is not met -/
theorem Rel.avoid {p : Addr} (r : Rel K T S0 J Γ σ H) (r2 : Rel K T S0 J Γ σ H2) (hp : Fre H p) (hp2 : ¬ Fre H2 p) (n : Nx T J H H2) : Rel K T (Rj S0 p) J Γ σ H2 := by
  refine ⟨fun a h => .inl (r.js a h), r2.jr, fun a h => ?_, r2.tb, r2.nd, fun q hq z => ?_, r2.len, fun i o e h1 h2 => (r.notNew hp n i o e h1 h2).sub fun b z => ?_⟩
  · rcases h with h | h
    · exact r2.wf a h
    · rw [h]; exact hp2
  · rcases z with z | z
    · exact r.os q hq z
    · exact r.newNot hp (by rw [← z]; exact hq)
  · rcases z with (z | z) | z
    · exact .inl (.inl z)
    · exact .inr z
    · exact .inl (.inr z)
theorem Rel.less {S1 : Ad} (r : Rel K T S1 J Γ σ H) (h : ∀ a, S0 a → S1 a) (js : ∀ a, J a → S0 a) : Rel K T S0 J Γ σ H :=
  ⟨js, r.jr, fun a z => r.wf a (h a z), r.tb, r.nd, fun p hp z => r.os p hp (h p z), r.len, fun i o e h1 h2 => (r.at_ i o e h1 h2).sub fun b z => z.imp (h b) id⟩
theorem XOk.avoid {p : Addr} {M : Ad} (x : XOk K T E X S0 J M H) : XOk K T E X (Rj S0 p) J M H := fun C fs xs dx H2 h1 n h2 h3 h4 => x C fs xs dx H2 h1 n h2 h3 (h4.sub (.of Rj.sub))
/-- two new lists -/
theorem s_parO {i j : Nat} (h : EL K T E X ta Γ fun ds => EL K T E X tb Γ fun es => ∀ p q, p ∉ owned Γ → q ∉ owned Γ → p ≠ q → N ((Γ.set i (.own p ds)).set j (.own q es))) : SW K T E X (tPar i j (tCons ta (tCons tb tNil))) Γ N R B C := fun S0 J σ H r xo D n rt b c =>
  h S0 J σ H r xo.ex _ fun p xs ds H2 h2 r2 n2 f2 e2 l2 => h2 (Rj S0 p) J σ H2 (r.avoid r2 f2 (fun z => z _ e2 noT_lst) n2) (xo.ex.nx n2).avoid _ fun q ys es H3 a r3 n3 f3 e3 l3 => by
    have hqp : p ≠ q := fun z => by rw [z] at e2; exact f3 _ e2 noT_lst
    have s1 : S0 p → False := fun z => r.wf p z f2
    have e2' : H3 p = some (.lst xs) := n3.le _ _ e2 noT_lst fun z => s1 (r.js _ z)
    have l2' : RepL K (Rj (Sx S0 Γ) p) H3 xs ds := l2.nx (n3.mono fun b z => .inl (.inl (r.js b z)))
    have r2' := r2.newO (i := i) s1 (r.newNot f2) e2 l2 (r.notNew f2 n2)
    have r4 := (r3.less (fun a z => .inl z) r.js).newO (i := i) s1 (r.newNot f2) e2' l2' (r.notNew f2 (n2.trans n3))
    have hq1 : q ∉ owned (Γ.set i (.own p ds)) := r2'.newNot f3
    have r5 := r4.newO (i := j) (fun z => r2.wf q z f3) hq1 e3 (l3.sub (.of fun b z => by
      rcases z with (z | z) | z
      · exact .inl (.inl (.inl z))
      · rcases owned_set Γ b z with q | q
        · exact .inl (.inr q)
        · exact .inl (.inl (.inr (List.mem_singleton.mp q)))
      · exact .inr z)) (r2'.notNew f3 n3)
    exact ⟨_, _, rfl, n _ _ _ (a p q (r.newNot f2) (r2.newNot f3) hqp) r5 ((Go.newO n2 f2).trans (.newO n3 f3))⟩
end
end Lp

set_option Elab.async false
set_option linter.all false
set_option maxRecDepth 100000
set_option maxHeartbeats 4000000
/-! L10: what is walked; for; comprehensions, over data. Own work. -/
namespace Lp
open PySem PySem.Spec PyProof.Rows L2 LamX
/-- from H1 on, while what S tells stands, the walk goes over what stands for ds -/
def WkD (K : Fg) (T : Tbl) (S : Ad) (H1 : Hp) (I : It) (ds : List Dt) : Prop := ∃ (G : Hp → Prop) (Y : Nat → Hp → V → Hp → Prop), Walk I ds.length G Y ∧ (∀ H, Nx T S H1 H → G H) ∧
  ∀ i d H x H', ds[i]? = some d → Nx T S H1 H → Y i H x H' → Nx T (fun _ => False) H H' ∧ ∀ S' : Ad, Sub S S' H1 → (∀ b, S' b → ¬ Fre H b) → Nx T S' H1 H → Rep K S' H' x d
def EI (K : Fg) (T : Tbl) (E : XK) (X : XP) (ti : TI) (Γ : List Ent) (P : List Dt → Prop) : Prop := ∀ (S0 J : Ad) (σ : L2.St) (H : Hp), Rel K T S0 J Γ σ H → XOk K T E X S0 J J H → ∀ R : It → Hp → Prop,
  (∀ I ds H1, P ds → Rel K T S0 J Γ σ H1 → Nx T J H H1 → WkD K T (Sx S0 Γ) H1 I ds → R I H1) → ti σ H R
/-- a target that is but names -/
def SP (K : Fg) (T : Tbl) (E : XK) (X : XP) (g : TG) (d : Dt) (L : List Nat) (Γ : List Ent) (P : List Ent → Prop) : Prop := ∀ (S0 J : Ad) (σ : L2.St) (H : Hp) (v : V), Rel K T S0 J Γ σ H → XOk K T E X S0 J J H → Rep K (Sx S0 Γ) H v d → ∀ Q : L2.St → Hp → Prop,
  (∀ Γ' σ', P Γ' → Rel K T S0 J Γ' σ' H → owned Γ' = owned Γ → (∀ k, k ∉ L → σ'[k]? = σ[k]?) → σ'.length = σ.length → Q σ' H) → g v σ H Q
def SPs (K : Fg) (T : Tbl) (E : XK) (X : XP) (g : TGs) (ds : List Dt) (L : List Nat) (Γ : List Ent) (P : List Ent → Prop) : Prop := ∀ (S0 J : Ad) (σ : L2.St) (H : Hp) (vs : List V), Rel K T S0 J Γ σ H → XOk K T E X S0 J J H → RepL K (Sx S0 Γ) H vs ds → ∀ Q : L2.St → Hp → Prop,
  (∀ Γ' σ', P Γ' → Rel K T S0 J Γ' σ' H → owned Γ' = owned Γ → (∀ k, k ∉ L → σ'[k]? = σ[k]?) → σ'.length = σ.length → Q σ' H) → g vs σ H Q
def noOwn (Γ : List Ent) (i : Nat) : Bool := match Γ[i]? with
  | some (.own _ _) => false
  | some (.owk _ _) => false
  | some (.owo _ _ _ _) => false
  | _ => true
/-- the slots of a comprehension's own names -/
def wipeG (Γ : List Ent) : List Nat → List Ent
  | [] => Γ
  | v :: vs => (wipeG Γ vs).set v .emp
section
variable {K : Fg} {T : Tbl} {E : XK} {X : XP} {S S' S0 J O O' : Ad} {H H1 H2 : Hp} {Γ Γ1 Γ' : List Ent} {σ σ' : L2.St}
variable {tb' : TS} {N N' : List Ent → Prop} {R : Rt → List Ent → Prop} {B C : List Ent → Prop} {ts tu : TS} {te ta tb : TE} {tt : TT} {tr : TA} {P : Dt → Prop} {A : List Dt → Prop} {ti : TI}
theorem noOwn_own {i : Nat} (h : noOwn Γ i = true) : ∀ e, Γ[i]? = some e → ownA e = [] := fun e he => by
  unfold noOwn at h
  rw [he] at h
  cases e with
  | own p ds => cases h
  | owk p ds => cases h
  | owo p C dx ds => cases h
  | emp => rfl
  | val d => rfl
  | jar j => rfl
theorem owned_put {i : Nat} {e' : Ent} (h : noOwn Γ i = true) (he : ownA e' = []) : owned (Γ.set i e') = owned Γ := by
  cases hi : Γ[i]? with
  | none =>
    rw [List.set_eq_of_length_le (List.getElem?_eq_none_iff.mp hi)]
  | some e => exact owned_same hi (by rw [he, noOwn_own h e hi])
theorem Rel.live (r : Rel K T S0 J Γ σ H) : ∀ b, Sx S0 Γ b → ¬ Fre H b := fun b z hb => r.fresh hb z
theorem p_name {i : Nat} {d : Dt} {G : List Ent → Prop} {L : List Nat} (hi : i ∈ L) (hn : noOwn Γ i = true) (p : G (Γ.set i (.val d))) : SP K T E X (gName i) d L Γ G := fun S0 J σ H v r xo rv Q q =>
  q _ _ p (r.setV rv) (owned_put hn rfl) (fun k hk => List.getElem?_set_ne fun z => hk (by rw [← z]; exact hi)) (List.length_set ..)
theorem ps_nil {G : List Ent → Prop} {L : List Nat} (p : G Γ) : SPs K T E X gNil [] L Γ G := fun S0 J σ H vs r xo rv Q q => by
  cases rv
  exact ⟨rfl, q _ _ p r rfl (fun _ _ => rfl) rfl⟩
theorem Sx.eq (h : owned Γ' = owned Γ) : Sx S0 Γ' = Sx S0 Γ := by unfold Sx; rw [h]
theorem ps_cons {g : TG} {gs : TGs} {d : Dt} {ds : List Dt} {G : List Ent → Prop} {L : List Nat} (h : SP K T E X g d L Γ fun Γ' => SPs K T E X gs ds L Γ' G) : SPs K T E X (gCons g gs) (d :: ds) L Γ G := fun S0 J σ H vs r xo rv Q q => by
  cases rv with
  | @cons v _ vs _ rv rvs =>
    refine ⟨v, vs, rfl, h S0 J σ H v r xo rv _ fun Γ1 σ1 a r1 g1 s1 l1 => a S0 J σ1 H vs r1 xo (by rw [Sx.eq g1]; exact rvs) Q fun Γ2 σ2 p r2 g2 s2 l2 => q _ _ p r2 (g2.trans g1) (fun k hk => by rw [s2 k hk, s1 k hk]) (l2.trans l1)⟩
theorem p_tup {gs : TGs} {ds : List Dt} {n : Nat} {G : List Ent → Prop} {L : List Nat} (hn : ds.length = n) (h : SPs K T E X gs ds L Γ G) : SP K T E X (gTup K n gs) (.tup ds) L Γ G := fun S0 J σ H v r xo rv Q q => by
  cases rv with
  | tup hs rl => exact ⟨_, _, rfl, hs.sq, by rw [rl.len]; exact hn, h S0 J σ H _ r xo rl Q q⟩
theorem g_p {g : TG} {d : Dt} {L : List Nat} {G : List Ent → Prop} (h : SP K T E X g d L Γ G) : SG K T E X g d L Γ G := fun S0 J σ H v r xo rv Q q =>
  h S0 J σ H v r xo.ex rv Q fun Γ' σ' p r1 g1 s1 _ => q Γ' σ' H p r1 ⟨.refl, fun b hb => .inl (by rw [← g1]; exact hb)⟩ s1
/-! ### walks -/
theorem wk_seq {a : Addr} {b : Bool} {ds : List Dt} (h : Rep K S H1 (.ref a) (sqD b ds)) : WkD K T S H1 (if b then Itl K a else Itt K a) ds := by
  cases b with
  | true =>
    cases h with
    | @lst a xs _ h r =>
      refine ⟨fun H => SqL K H a xs, YAt xs, by rw [← r.len]; exact walk_list, fun H n => (n.sqL h).sq, fun i d H x H' hd n y => ?_⟩
      obtain ⟨e, hx⟩ := y
      rw [e]
      refine ⟨.refl, fun S' sb lv n' => ?_⟩
      obtain ⟨z, hz, rz⟩ := r.get hd
      rw [hz] at hx
      cases hx
      exact (rz.sub sb).nx n'
  | false =>
    cases h with
    | @tup a xs _ h r =>
      refine ⟨fun H => SqT K H a xs, YAt xs, by rw [← r.len]; exact walk_tup, fun H n => (n.sqT h).sq, fun i d H x H' hd n y => ?_⟩
      obtain ⟨e, hx⟩ := y
      rw [e]
      refine ⟨.refl, fun S' sb lv n' => ?_⟩
      obtain ⟨z, hz, rz⟩ := r.get hd
      rw [hz] at hx
      cases hx
      exact (rz.sub sb).nx n'
def signs (z : Str) : List Dt := z.cps.toList.map fun c => .str ⟨#[c]⟩
theorem signs_len {z : Str} : (signs z).length = z.cps.size := by simp [signs]
theorem wk_str {z : Str} : WkD K T S H1 (Its z) (signs z) := by
  refine ⟨fun _ => True, _, by rw [signs_len]; exact walk_str, fun _ _ => trivial, fun i d H x H' hd n y => ?_⟩
  obtain ⟨e, c, hc, ex⟩ := y
  rw [e, ex]
  refine ⟨.refl, fun S' sb lv n' => ?_⟩
  have : d = .str ⟨#[c]⟩ := by
    unfold signs at hd
    rw [List.getElem?_map] at hd
    rw [show z.cps.toList[i]? = some c from by simpa using hc] at hd
    exact (Option.some.inj hd).symm
  rw [this]
  exact .str _
def rgD (lo : Int) (n : Nat) : List Dt := (List.range n).map fun i => .int (lo + (i : Nat))
theorem rgD_len {lo : Int} {n : Nat} : (rgD lo n).length = n := by simp [rgD]
theorem rgD_get {lo : Int} {n i : Nat} {d : Dt} (h : (rgD lo n)[i]? = some d) : i < n ∧ d = .int (lo + (i : Nat)) := by
  have hl := (List.getElem?_eq_some_iff.mp h).1
  rw [rgD_len] at hl
  unfold rgD at h
  rw [List.getElem?_map, List.getElem?_range hl] at h
  exact ⟨hl, (Option.some.inj h).symm⟩
theorem wk_rng {lo : Int} {n : Nat} : WkD K T S H1 (Itr lo n) (rgD lo n) := by
  refine ⟨fun _ => True, _, by rw [rgD_len]; exact walk_range, fun _ _ => trivial, fun i d H x H' hd n y => ?_⟩
  obtain ⟨e, ex⟩ := y
  rw [e, ex, (rgD_get hd).2]
  exact ⟨.refl, fun S' sb lv n' => .int _⟩
theorem walk_enumT {a : Addr} {xs : List V} : Walk (IteT K a) xs.length (fun H => SqT K H a xs) (YPair (fun i => some (.int (i : Nat))) (fun i => xs[i]?)) := by
  refine ⟨fun i _ hi q => ⟨xs, xs[i], q, by simp [hi]⟩, fun _ q => ⟨xs, q, Nat.le_refl _⟩, fun i H v H' _ q y => ?_⟩
  obtain ⟨T, x, h1, h2, h3, h4⟩ := y
  exact ⟨T, .int (i : Nat), x, h1, h2, h3, rfl, h4 xs q⟩
/-- the pairs that enumerate gives -/
def enD (ds : List Dt) : List Dt := ds.zipIdx.map fun p => .tup [.int (p.2 : Nat), p.1]
theorem enD_len {ds : List Dt} : (enD ds).length = ds.length := by simp [enD]
theorem enD_get {ds : List Dt} {i : Nat} {d : Dt} (h : (enD ds)[i]? = some d) : ∃ x, ds[i]? = some x ∧ d = .tup [.int (i : Nat), x] := by
  unfold enD at h
  rw [List.getElem?_map, List.getElem?_zipIdx] at h
  cases hx : ds[i]? with
  | none => rw [hx] at h; cases h
  | some x =>
    rw [hx] at h
    refine ⟨x, rfl, ?_⟩
    have e := (Option.some.inj h).symm
    simpa using e
theorem pair_rep {Tp : Addr} {y : V} {i : Nat} {d : Dt} (hT : H Tp = none) (hs : ¬ S Tp) (r : Rep K S H y d) : Rep K S (upd H Tp (.tup [.int (i : Nat), y])) (.ref Tp) (.tup [.int (i : Nat), d]) :=
  .tup (.inl ⟨hs, .inl upd_same⟩) (.cons (.int _) (.cons (r.nx (T := []) (.new hT noT_tup)) .nil))
theorem wk_enum {a : Addr} {b : Bool} {ds : List Dt} (h : Rep K S H1 (.ref a) (sqD b ds)) : WkD K T S H1 (if b then Ite K a else IteT K a) (enD ds) := by
  have key : ∀ {xs : List V} {i : Nat} {d : Dt} {H : Hp} {x : V} {H' : Hp}, RepL K S H1 xs ds → (enD ds)[i]? = some d → YPair (fun i => some (.int (i : Nat))) (fun i => xs[i]?) i H x H' →
      Nx T (fun _ => False) H H' ∧ ∀ S' : Ad, Sub S S' H1 → (∀ b, S' b → ¬ Fre H b) → Nx T S' H1 H → Rep K S' H' x d := fun {xs i d H x H'} r hd y => by
    obtain ⟨Tp, p, y, ex, hT, e, e1, e2⟩ := y
    obtain ⟨u, hu, ed⟩ := enD_get hd
    obtain ⟨z, hz, rz⟩ := r.get hu
    have e2' : xs[i]? = some y := e2
    rw [hz] at e2'
    cases e2'
    cases (show some (V.int (i : Nat)) = some p from e1)
    subst ex e ed
    exact ⟨.new hT noT_tup, fun S' sb lv n' => pair_rep hT (fun z => lv _ z (.of hT)) ((rz.sub sb).nx n')⟩
  cases b with
  | true =>
    cases h with
    | @lst a xs _ h r => exact ⟨fun H => SqL K H a xs, _, by rw [enD_len, ← r.len]; exact walk_enum, fun H n => (n.sqL h).sq, fun i d H x H' hd n y => key r hd y⟩
  | false =>
    cases h with
    | @tup a xs _ h r => exact ⟨fun H => SqT K H a xs, _, by rw [enD_len, ← r.len]; exact walk_enumT, fun H n => (n.sqT h).sq, fun i d H x H' hd n y => key r hd y⟩
theorem i_u (h : EX K T E X te Γ fun d => (∃ b ds, d = sqD b ds ∧ A ds) ∨ ∃ z, d = .str z ∧ A (signs z)) : EI K T E X (iU K te) Γ A := fun S0 J σ H r xo Q q =>
  h S0 J σ H r xo _ fun v d H2 a r2 n2 rv => by
    rcases a with ⟨b, ds, rfl, a⟩ | ⟨z, rfl, a⟩
    · have w := fun {ad : Addr} (e : v = .ref ad) => wk_seq (T := T) (by rw [← e]; exact rv)
      cases b with
      | true =>
        cases id rv with
        | @lst ad xs _ hs rl => exact .inl ⟨ad, rfl, .inl ⟨⟨xs, hs.sq⟩, q _ ds H2 a r2 n2 (w rfl)⟩⟩
      | false =>
        cases id rv with
        | @tup ad xs _ hs rl => exact .inl ⟨ad, rfl, .inr ⟨⟨xs, hs.sq⟩, q _ ds H2 a r2 n2 (w rfl)⟩⟩
    · cases rv
      exact .inr ⟨z, rfl, q _ _ H2 a r2 n2 wk_str⟩
theorem i_enum (h : EX K T E X te Γ fun d => ∃ b ds, d = sqD b ds ∧ A (enD ds)) : EI K T E X (iEnumU K (tCons te tNil)) Γ A := fun S0 J σ H r xo Q q =>
  h S0 J σ H r xo _ fun v d H2 ⟨b, ds, ed, a⟩ r2 n2 rv => by
    subst ed
    have w := fun {ad : Addr} (e : v = .ref ad) => wk_enum (T := T) (by rw [← e]; exact rv)
    cases b with
    | true =>
      cases id rv with
      | @lst ad xs _ hs rl => exact ⟨ad, xs, rfl, .inl ⟨hs.sq, q _ _ H2 a r2 n2 (w rfl)⟩⟩
    | false =>
      cases id rv with
      | @tup ad xs _ hs rl => exact ⟨ad, xs, rfl, .inr ⟨hs.sq, q _ _ H2 a r2 n2 (w rfl)⟩⟩
theorem i_rng1 (h : EX K T E X te Γ fun d => ∃ j : Int, d = .int j ∧ -(2 ^ 62) ≤ j ∧ j < 2 ^ 62 ∧ A (rgD 0 j.toNat)) : EI K T E X (iRng1 (tCons te tNil)) Γ A := fun S0 J σ H r xo Q q =>
  h S0 J σ H r xo _ fun v d H2 ⟨j, ed, h1, h2, a⟩ r2 n2 rv => by
    subst ed
    cases rv
    exact ⟨j, rfl, h1, h2, q _ _ H2 a r2 n2 wk_rng⟩
theorem i_rng2 (h : EX K T E X ta Γ fun c => EX K T E X tb Γ fun d => ∃ i j : Int, c = .int i ∧ d = .int j ∧ (-(2 ^ 62) ≤ i ∧ i < 2 ^ 62 ∧ -(2 ^ 62) ≤ j ∧ j < 2 ^ 62) ∧ A (rgD i (j - i).toNat)) : EI K T E X (iRng2 (tCons ta (tCons tb tNil))) Γ A := fun S0 J σ H r xo Q q =>
  h S0 J σ H r xo _ fun v d H2 h2 r2 n2 rv => h2 S0 J σ H2 r2 (xo.nx n2) _ fun w e H3 ⟨i, j, e1, e2, hb, a⟩ r3 n3 rw' => by
    subst e1 e2
    cases rv; cases rw'
    exact ⟨i, j, rfl, hb, q _ _ H3 a r3 (n2.trans n3) wk_rng⟩
/-! ### for -/
theorem Go.sub' (g : Go T J Γ H Γ' H1) (r : Rel K T S0 J Γ σ H) (r' : Rel K T S0 J Γ' σ' H1) : ∃ S', (∀ b, Sx S0 Γ' b → S' b) ∧ Sub (Sx S0 Γ) S' H ∧ Nx T S' H H1 ∧ ∀ b, S' b → ¬ Fre H1 b := by
  refine ⟨fun a => Sx S0 Γ a ∨ a ∈ owned Γ', fun b z => ?_, ⟨fun b u hb nt nb z => ?_⟩, g.nx.mono fun b z => ?_, fun b z hb => ?_⟩
  · rcases z with z | z
    · exact .inl (.inl z)
    · exact .inr z
  · rcases z with z | z
    · exact nb z
    · rcases g.own b z with q | q
      · exact nb (.inr q)
      · exact q u hb nt
  · rcases z with z | z
    · exact .inl (.inl (r.js b z))
    · exact .inl (.inr z)
  · rcases z with z | z
    · exact r.live b z (g.nx.dom b hb)
    · exact r'.live b (.inr z) hb
theorem s_for {g : TG} (h : EI K T E X ti Γ fun ds => ∃ (Iv : Nat → List Ent → Prop) (L : List Nat), Iv 0 Γ ∧
      (∀ i d Γ', ds[i]? = some d → Iv i Γ' → SG K T E X g d L Γ' fun Γ2 => SW K T E X tb' Γ2 (Iv (i + 1)) R N (Iv (i + 1))) ∧ ∀ Γ', Iv ds.length Γ' → N Γ') : SW K T E X (tFor ti g tb') Γ N R B C := fun S0 J σ H r xo D n rt b c =>
  h S0 J σ H r xo.ex _ fun I ds H1 ⟨Iv, L, h0, hs, hd⟩ r1 n1 ⟨G, Y, w, hG, hY⟩ => by
    have g0 := r.go n1
    have x1 := xo.nxs n1
    refine for_it w (fun i σ2 H2 => ∃ Γ2, Iv i Γ2 ∧ Rel K T S0 J Γ2 σ2 H2 ∧ Go T J Γ H1 Γ2 H2) ⟨Γ, h0, r1, .refl⟩ (fun i σ2 H2 _ ⟨Γ2, _, r2, g2⟩ => hG H2 (g2.nx.mono fun b z => z.imp (r.js b) id)) (fun i x σ2 H2 H3 hi ⟨Γ2, iv, r2, g2⟩ y => ?_) fun σ2 H2 ⟨Γ2, iv, r2, g2⟩ => n Γ2 σ2 H2 (hd Γ2 iv) r2 (g0.trans g2)
    have hdd : ds[i]? = some ds[i] := List.getElem?_eq_getElem hi
    obtain ⟨n3, hx⟩ := hY i ds[i] H2 x H3 hdd (g2.nx.mono fun b z => z.imp (r.js b) id) y
    obtain ⟨S', q1, q2, q3, q4⟩ := g2.sub' r1 r2
    have rx := (hx S' q2 q4 q3).sub (.of q1)
    have r3 := r2.nx n3
    have g3 : Go T J Γ H1 Γ2 H3 := g2.trans (r2.go (n3.mono fun _ z => z.elim))
    refine hs i ds[i] Γ2 hdd iv S0 J σ2 H3 x r3 (x1.go g3) rx _ fun Γ4 σ4 H4 p r4 g4 _ => ?_
    have g4' := g3.trans g4
    exact p S0 J σ4 H4 r4 (x1.go g4') _ (fun Γ5 σ5 H5 p5 r5 g5 => ⟨Γ5, p5, r5, g4'.trans g5⟩) (fun rr v Γ5 σ5 H5 p5 r5 g5 z => rt rr v Γ5 σ5 H5 p5 r5 (g0.trans (g4'.trans g5)) (z.mono (Og.go (g0.trans g4'))))
      (fun Γ5 σ5 H5 p5 r5 g5 => n Γ5 σ5 H5 p5 r5 (g0.trans (g4'.trans g5))) (fun Γ5 σ5 H5 p5 r5 g5 => ⟨Γ5, p5, r5, g4'.trans g5⟩)
/-! ### comprehensions -/
theorem wipeG_len (vs : List Nat) : (wipeG Γ vs).length = Γ.length := by
  induction vs with
  | nil => rfl
  | cons v vs ih => unfold wipeG; rw [List.length_set]; exact ih
theorem wipe_at (vs : List Nat) (k : Nat) : (wipe σ vs)[k]? = if k ∈ vs ∧ k < σ.length then some none else σ[k]? := by
  induction vs with
  | nil => simp [wipe]
  | cons v vs ih =>
    unfold wipe
    by_cases hk : k = v
    · subst hk
      by_cases hl : k < σ.length
      · rw [List.getElem?_set_self (by rw [wipe_length]; exact hl)]; simp [hl]
      · rw [List.getElem?_eq_none (by rw [List.length_set, wipe_length]; omega), if_neg (by simp [hl]), List.getElem?_eq_none (by omega)]
    · rw [List.getElem?_set_ne (Ne.symm hk), ih]
      simp [hk]
theorem wipe_agree {vs : List Nat} {σ2 : L2.St} (h : ∀ k, k ∉ vs → σ2[k]? = (wipe σ vs)[k]?) (hl : σ2.length = (wipe σ vs).length) : wipe σ2 vs = wipe σ vs := by
  apply List.ext_getElem?
  intro k
  rw [wipe_length] at hl
  rw [wipe_at, wipe_at, hl]
  by_cases hk : k ∈ vs
  · by_cases hn : k < σ.length
    · simp [hk, hn]
    · rw [if_neg (by simp [hn]), if_neg (by simp [hn]), List.getElem?_eq_none (by omega), List.getElem?_eq_none (by omega)]
  · rw [if_neg (by simp [hk]), if_neg (by simp [hk]), h k hk, wipe_at, if_neg (by simp [hk])]
theorem noOwn_set {i k : Nat} (h : noOwn Γ k = true) : noOwn (Γ.set i .emp) k = true := by
  unfold noOwn at *
  by_cases hi : i = k
  · subst hi
    by_cases hl : i < Γ.length
    · rw [List.getElem?_set_self hl]
    · rw [List.getElem?_eq_none (by rw [List.length_set]; omega)]
  · rw [List.getElem?_set_ne hi]; exact h
theorem wipeG_no {vs : List Nat} (h : vs.all (noOwn Γ) = true) : ∀ k, noOwn Γ k = true → noOwn (wipeG Γ vs) k = true := by
  induction vs with
  | nil => exact fun k h => h
  | cons v vs ih =>
    rw [List.all_cons, Bool.and_eq_true] at h
    exact fun k hk => noOwn_set (ih h.2 k hk)
theorem wipeG_owned {vs : List Nat} (h : vs.all (noOwn Γ) = true) : owned (wipeG Γ vs) = owned Γ := by
  induction vs with
  | nil => rfl
  | cons v vs ih =>
    rw [List.all_cons, Bool.and_eq_true] at h
    unfold wipeG
    rw [owned_put (wipeG_no h.2 v h.1) rfl, ih h.2]
theorem Rel.setE {i : Nat} (r : Rel K T S0 J Γ σ H) (hn : noOwn Γ i = true) : Rel K T S0 J (Γ.set i .emp) (σ.set i none) H := by
  have e := owned_put (e' := .emp) hn rfl
  refine ⟨r.js, r.jr, r.wf, r.tb, by rw [e]; exact r.nd, by rw [e]; exact r.os, by rw [List.length_set, List.length_set]; exact r.len, fun k o e' h1 h2 => ?_⟩
  rw [Sx.eq e]
  by_cases hk : k = i
  · subst hk
    have hl := (List.getElem?_eq_some_iff.mp h2).1
    rw [List.length_set] at hl
    rw [List.getElem?_set_self hl] at h2
    cases h2
    trivial
  · rw [List.getElem?_set_ne (Ne.symm hk)] at h1 h2
    exact r.at_ k o e' h1 h2
theorem Rel.wipe {vs : List Nat} (r : Rel K T S0 J Γ σ H) (h : vs.all (noOwn Γ) = true) : Rel K T S0 J (wipeG Γ vs) (wipe σ vs) H := by
  induction vs with
  | nil => exact r
  | cons v vs ih =>
    rw [List.all_cons, Bool.and_eq_true] at h
    exact (ih h.2).setE (wipeG_no h.2 v h.1)
/-- a change at a place that no data meet -/
theorem Rel.nxS {p : Addr} (r : Rel K T S0 J Γ σ H) (hp : S0 p) (hj : ¬ J p) (n : Nx T (fun a => a = p) H H1) : Rel K T S0 J Γ σ H1 := by
  refine ⟨r.js, fun a h => (r.jr a h).nx n fun z => hj (by rw [← z]; exact h), fun a h z => r.wf a h (n.dom a z), n.tab r.tb, r.nd, r.os, r.len, fun i o e h1 h2 => ?_⟩
  have q := r.at_ i o e h1 h2
  have m : Nx T (Sx S0 Γ) H H1 := n.mono fun b z => by rw [z]; exact .inl hp
  cases e with
  | emp => trivial
  | val d => obtain ⟨v, e1, e2⟩ := q; exact ⟨v, e1, e2.nx m⟩
  | own b ds =>
    obtain ⟨e1, xs, e2, e3⟩ := q
    exact ⟨e1, xs, n.le _ _ e2 noT_lst (fun z => r.os b (mem_owned h2) (by rw [z]; exact hp)), e3.nx m⟩
  | owk b ds =>
    obtain ⟨e1, xs, e2, e3⟩ := q
    exact ⟨e1, xs, n.le _ _ e2 noT_dK (fun z => r.os b (mem_ownedK h2) (by rw [z]; exact hp)), e3.nx m⟩
  | owo b C dx ds =>
    obtain ⟨e1, xs, e2, e3⟩ := q
    exact ⟨e1, xs, n.le _ _ e2 noT_ins (fun z => r.os b (mem_ownedO h2) (by rw [z]; exact hp)), e3.nx m⟩
  | jar k => exact q
theorem l_lc {g : TG} {vs : List Nat} (hw : vs.all (noOwn Γ) = true) (h : EI K T E X ti Γ fun ds => ds.length ≤ sizeLine ∧ ∃ Iv : Nat → List Dt → Prop, Iv 0 [] ∧
      (∀ i d acc, ds[i]? = some d → acc.length ≤ i → Iv i acc → SP K T E X g d vs (wipeG Γ vs) fun Γ2 => ET K T E X tt Γ2 fun b => (b = true → EX K T E X te Γ2 fun y => Iv (i + 1) (acc ++ [y])) ∧ (b = false → Iv (i + 1) acc)) ∧
      ∀ acc, acc.length ≤ ds.length → Iv ds.length acc → A acc) : EL K T E X (tLc ti g tt te vs) Γ A := fun S0 J σ H r xo Q q =>
  h S0 J σ H r xo _ fun I ds H1 ⟨hz, Iv, h0, hs, hd⟩ r1 n1 ⟨G, Y, w, hG, hY⟩ D hD => by
    have x1 := xo.nx n1
    have hDJ : ¬ J D := fun z => r1.wf D (r1.js D z) (.of hD)
    have nD : Nx T J H1 (upd H1 D (.lst [])) := .new hD noT_lst
    have rD : Rel K T S0 J Γ σ (upd H1 D (.lst [])) := r1.nx (.new hD noT_lst)
    have r0 : Rel K T (Rj S0 D) J Γ σ (upd H1 D (.lst [])) := r1.avoid rD (.of hD) (fun z => z _ upd_same noT_lst) nD
    refine lc_it w (fun i Hc => ∃ acc xs, Hc D = some (.lst xs) ∧ RepL K (Rj (Sx S0 Γ) D) Hc xs acc ∧ acc.length ≤ i ∧ Iv i acc ∧ Rel K T (Rj S0 D) J Γ σ Hc ∧ Nx T J H1 Hc) ⟨[], [], upd_same, .nil, Nat.le_refl _, h0, r0, nD⟩
      (fun i Hc _ ⟨acc, xs, _, _, _, _, _, nn⟩ => hG Hc (nn.mono fun b z => .inl (r.js b z))) (fun i x Hc H' hi ⟨acc, xs, eD, rl, hl, iv, rc, nn⟩ y => ?_) fun Hc ⟨acc, xs, eD, rl, hl, iv, rc, nn⟩ => ?_
    · have hdd : ds[i]? = some ds[i] := List.getElem?_eq_getElem hi
      obtain ⟨n3, hx⟩ := hY i ds[i] Hc x H' hdd (nn.mono fun b z => .inl (r.js b z)) y
      have rw0 : Rel K T (Rj S0 D) J (wipeG Γ vs) (wipe σ vs) Hc := rc.wipe hw
      have sxe : ∀ b, Sx (Rj S0 D) (wipeG Γ vs) b → Rj (Sx S0 Γ) D b := fun b z => by
        rw [Sx.eq (wipeG_owned hw)] at z
        rcases z with (z | z) | z
        · exact .inl (.inl z)
        · exact .inr z
        · exact .inl (.inr z)
      have rx := hx (Sx (Rj S0 D) (wipeG Γ vs)) ⟨fun b u hb nt nb z => by
        rcases sxe b z with z | z
        · exact nb z
        · rw [z, hD] at hb; cases hb⟩ (rw0.live) (nn.mono fun b z => .inl (.inl (r.js b z)))
      have r3 := rw0.nx n3
      have n3' : Nx T J Hc H' := n3.mono fun _ z => z.elim
      have xw : ∀ {H'' : Hp}, Nx T J H1 H'' → XOk K T E X (Rj S0 D) J J H'' := fun n' => (x1.nx n').avoid
      refine hs i ds[i] acc hdd hl iv (Rj S0 D) J (wipe σ vs) H' x r3 (xw (nn.trans n3')) rx _ fun Γ2 σ2 a r4 o4 s4 l4 => ⟨wipe_agree s4 l4, ?_⟩
      have x4 : ∀ {H'' : Hp}, Nx T J H1 H'' → XOk K T E X (Rj S0 D) J J H'' := fun n' => xw n'
      have keep : ∀ {Hz : Hp}, Nx T J Hc Hz → Hz D = some (.lst xs) ∧ RepL K (Rj (Sx S0 Γ) D) Hz xs acc ∧ Rel K T (Rj S0 D) J (wipeG Γ vs) (wipe σ vs) Hz → True := fun _ _ => trivial
      refine a (Rj S0 D) J σ2 H' r4 (x4 (nn.trans n3')) _ fun b H5 hb r5 n5 => ?_
      have n35 : Nx T J Hc H5 := n3'.trans n5
      have back : ∀ {Hz : Hp}, Nx T J Hc Hz → (∀ a, J a → JarOk Hz a) → Tabs T Hz → Rel K T (Rj S0 D) J Γ σ Hz := fun {Hz} nz jz tz => by
        refine ⟨rc.js, jz, fun a h z => rc.wf a h (nz.dom a z), tz, rc.nd, rc.os, rc.len, fun k o e h1 h2 => ?_⟩
        have q := rc.at_ k o e h1 h2
        have m : Nx T (Sx (Rj S0 D) Γ) Hc Hz := nz.mono fun b z => .inl (rc.js b z)
        cases e with
        | emp => trivial
        | val d => obtain ⟨v, e1, e2⟩ := q; exact ⟨v, e1, e2.nx m⟩
        | own b ds => obtain ⟨e1, xs, e2, e3⟩ := q; exact ⟨e1, xs, nz.le _ _ e2 noT_lst (fun z => rc.os b (mem_owned h2) (rc.js _ z)), e3.nx m⟩
        | owk b ds => obtain ⟨e1, xs, e2, e3⟩ := q; exact ⟨e1, xs, nz.le _ _ e2 noT_dK (fun z => rc.os b (mem_ownedK h2) (rc.js _ z)), e3.nx m⟩
        | owo b C dx ds => obtain ⟨e1, xs, e2, e3⟩ := q; exact ⟨e1, xs, nz.le _ _ e2 noT_ins (fun z => rc.os b (mem_ownedO h2) (rc.js _ z)), e3.nx m⟩
        | jar k => exact q
      cases b with
      | false =>
        rw [if_neg (by simp)]
        exact ⟨acc, xs, n35.le _ _ eD noT_lst hDJ, rl.nx (n35.mono fun b z => .inl (.inl (r.js b z))), Nat.le_succ_of_le hl, hb.2 rfl, back n35 r5.jr r5.tb, nn.trans n35⟩
      | true =>
        rw [if_pos rfl]
        refine hb.1 rfl (Rj S0 D) J σ2 H5 r5 (x4 (nn.trans n35)) _ fun v d H6 p6 r6 n6 rv => ?_
        have n36 : Nx T J Hc H6 := n35.trans n6
        have eD6 : H6 D = some (.lst xs) := n36.le _ _ eD noT_lst hDJ
        have rl6 : RepL K (Rj (Sx S0 Γ) D) H6 xs acc := rl.nx (n36.mono fun b z => .inl (.inl (r.js b z)))
        have nP : Nx T (fun a => a = D) H6 (upd H6 D (.lst (xs ++ [v]))) := .put rfl eD6 trivial
        have nP' : Nx T (Rj (Sx S0 Γ) D) H6 (upd H6 D (.lst (xs ++ [v]))) := nP.mono fun b z => .inr z
        have rv' : Rep K (Rj (Sx S0 Γ) D) H6 v d := rv.sub (.of fun b z => by
          rw [Sx.eq o4, Sx.eq (wipeG_owned hw)]
          rcases z with (z | z) | z
          · exact .inl (.inl z)
          · exact .inr z
          · exact .inl (.inr z))
        refine ⟨xs, eD6, by rw [rl6.len]; omega, acc ++ [d], xs ++ [v], upd_same, (rl6.snoc rv').nx nP', by rw [List.length_append]; show acc.length + 1 ≤ i + 1; omega, p6, (back n36 r6.jr r6.tb).nxS (.inr rfl) hDJ nP, ?_⟩
        refine ⟨fun b o e no ns => ?_, fun b e => ?_, fun t => nP.tab ((nn.trans n36).tab t)⟩
        · have hb' : b ≠ D := fun z => by rw [z, hD] at e; cases e
          rw [upd_ne hb']
          exact (nn.trans n36).le b o e no ns
        · exact (nn.trans n36).dom b (nP.dom b e)
    · exact q D xs acc Hc (hd acc hl iv) (rc.less (fun a z => .inl z) r.js) (n1.trans nn) (n1.dom D (.of hD)) eD rl
end
end Lp

set_option Elab.async false
set_option linter.all false
set_option maxRecDepth 100000
set_option maxHeartbeats 4000000
/-! L11: calls and defs over data. Own work. -/
namespace Lp
open PySem PySem.Spec PyProof.Rows L2 LamX
abbrev FS := List Dt → (Rt → Prop) → XP → Prop
abbrev JS := List Dt → (Rt → Prop) → Prop
abbrev OS := List Dt → List Dt → (Rt → List Dt → Prop) → XP → Prop
abbrev Non : Ad := fun _ => False
abbrev noX : XP := fun _ _ => False
/-- what a caller of a def asks: F ds P X: given ds, it gives what P holds of or raises what X tells -/
def spD (K : Fg) (T : Tbl) (F : FS) : Sp := fun vs H Q E => ∃ (S0 : Ad) (ds : List Dt) (P : Rt → Prop) (X : XP), RepL K S0 H vs ds ∧ (∀ a, S0 a → ¬ Fre H a) ∧ Tabs T H ∧ F ds P X ∧
  (∀ v r H2, P r → Nx T Non H H2 → RepR K S0 (Fre H) H2 v r → Q v H2) ∧ XOk K T E X S0 Non Non H
/-- .. of one that is handed the jar first -/
def spJ (K : Fg) (T : Tbl) (F : JS) : Sp := fun vs H Q E => ∃ (S0 : Ad) (j : Addr) (ws : List V) (ds : List Dt) (P : Rt → Prop), vs = .ref j :: ws ∧ RepL K S0 H ws ds ∧ S0 j ∧ (∀ a, S0 a → ¬ Fre H a) ∧ Tabs T H ∧ JarOk H j ∧ F ds P ∧
  ∀ v r H2, P r → Nx T (fun a => a = j) H H2 → JarOk H2 j → RepR K S0 (Fre H) H2 v r → Q v H2
/-- .. of one that is handed a list first that it may change -/
def spO (K : Fg) (T : Tbl) (F : OS) : Sp := fun vs H Q E => ∃ (S0 : Ad) (p : Addr) (xs : List V) (ds : List Dt) (ws : List V) (es : List Dt) (P : Rt → List Dt → Prop) (X : XP), vs = .ref p :: ws ∧ ¬ S0 p ∧ H p = some (.lst xs) ∧ RepL K (Rj S0 p) H xs ds ∧ RepL K (Rj S0 p) H ws es ∧
  (∀ a, S0 a → ¬ Fre H a) ∧ Tabs T H ∧ F ds es P X ∧
  (∀ v r H2 xs' ds', P r ds' → Nx T (fun a => a = p) H H2 → H2 p = some (.lst xs') → RepL K (Rj S0 p) H2 xs' ds' → RepR K S0 (fun a => a = p ∨ Fre H a) H2 v r → Q v H2) ∧ XOk K T E X S0 Non (fun a => a = p) H
section
variable {K : Fg} {T : Tbl} {E E' : XK} {X : XP} {S S' S0 J O O' : Ad} {H H1 H2 : Hp} {Γ Γ1 Γ' : List Ent} {σ σ' : L2.St}
variable {N N' : List Ent → Prop} {R : Rt → List Ent → Prop} {B C : List Ent → Prop} {ts tu : TS} {te ta tb : TE} {tt : TT} {tr : TA} {P : Dt → Prop} {A : List Dt → Prop} {ti : TI} {F : FS} {FJ : JS} {FO : OS}
/-- what a called def may let out -/
theorem XOk.call (xo : XOk K T E X S0 J J H) (r1 : Rel K T S0 J Γ σ H1) (n1 : Nx T J H H1) : XOk K T E X (Sx S0 Γ) Non Non H1 := fun C fs xs dx H2 h1 n h2 h3 h4 _ =>
  (xo.nx n1) C fs xs dx H2 h1 (n.mono fun _ z => z.elim) h2 h3 (h4.sub (.of Sx.sub0)) fun a ha => (r1.jr a ha).nx n id
theorem call_core (h : EA K T E X tr Γ fun ds => F ds (fun r => P r.dt) X) (r : Rel K T S0 J Γ σ H) (xo : XOk K T E X S0 J J H) (hE : E' = E ∨ X = noX) {Q : VK}
    (q : ∀ v rr H1 H2, P rr.dt → Rel K T S0 J Γ σ H1 → Nx T J H H1 → Nx T Non H1 H2 → Rel K T S0 J Γ σ H2 → RepR K (Sx S0 Γ) (Fre H1) H2 v rr → Q v H2) : tCall (spD K T F) [] E' tr σ H Q :=
  h S0 J σ H r xo _ fun vs ds H1 f r1 n1 rl => by
    rw [List.append_nil]
    refine ⟨Sx S0 Γ, ds, _, X, rl, r1.live, r1.tb, f, fun v rr H2 p n2 rv => q v rr H1 H2 p r1 n1 n2 (r1.nx n2) rv, ?_⟩
    rcases hE with e | e
    · rw [e]
      exact xo.call r1 n1
    · rw [e]; exact .none
theorem RepR.sub0 {v : V} {r : Rt} (h : RepR K (Sx S0 Γ) O H v r) : Rep K (Sx S0 Γ) H v r.dt := h.rep
theorem x_call (h : EA K T E X tr Γ fun ds => F ds (fun r => P r.dt) X) : EX K T E X (tCall (spD K T F) [] E tr) Γ P := fun S0 J σ H r xo Q q =>
  call_core h r xo (.inl rfl) fun v rr H1 H2 p r1 n1 n2 r2 rv => q v rr.dt H2 p r2 (n1.trans (n2.mono fun _ z => z.elim)) rv.rep
/-- one that raises nothing -/
theorem x_callP (h : EA K T E X tr Γ fun ds => F ds (fun r => P r.dt) noX) : EX K T E X (tCall (spD K T F) [] E' tr) Γ P := fun S0 J σ H r xo Q q =>
  h S0 J σ H r xo _ fun vs ds H1 f r1 n1 rl => by
    rw [List.append_nil]
    exact ⟨Sx S0 Γ, ds, _, noX, rl, r1.live, r1.tb, f, fun v rr H2 p n2 rv => q v rr.dt H2 p (r1.nx n2) (n1.trans (n2.mono fun _ z => z.elim)) rv.rep, .none⟩
/-- one that gives a new list -/
theorem l_callP (h : EA K T E X tr Γ fun ds => F ds (fun r => ∃ es, r = .new es ∧ A es) noX) : EL K T E X (tCall (spD K T F) [] E' tr) Γ A := fun S0 J σ H r xo Q q =>
  h S0 J σ H r xo _ fun vs ds H1 f r1 n1 rl => by
    rw [List.append_nil]
    refine ⟨Sx S0 Γ, ds, _, noX, rl, r1.live, r1.tb, f, fun v rr H2 ⟨es, e, p⟩ n2 rv => ?_, .none⟩
    subst e
    obtain ⟨l, xs, e, h1, h2, h3, h4⟩ := rv
    subst e
    exact q l xs es H2 p (r1.nx n2) (n1.trans (n2.mono fun _ z => z.elim)) (n1.dom _ h2) h3 h4
theorem l_call (h : EA K T E X tr Γ fun ds => F ds (fun r => ∃ es, r = .new es ∧ A es) X) : EL K T E X (tCall (spD K T F) [] E tr) Γ A := fun S0 J σ H r xo Q q =>
  h S0 J σ H r xo _ fun vs ds H1 f r1 n1 rl => by
    rw [List.append_nil]
    refine ⟨Sx S0 Γ, ds, _, X, rl, r1.live, r1.tb, f, fun v rr H2 ⟨es, e, p⟩ n2 rv => ?_, xo.call r1 n1⟩
    subst e
    obtain ⟨l, xs, e, h1, h2, h3, h4⟩ := rv
    subst e
    exact q l xs es H2 p (r1.nx n2) (n1.trans (n2.mono fun _ z => z.elim)) (n1.dom _ h2) h3 h4
/-- one that is handed the jar -/
theorem jar_core {i : Nat} {j : Addr} (hj : Γ[i]? = some (.jar j)) (h : EA K T E X tr Γ fun ds => FJ ds fun r => P r.dt) (r : Rel K T S0 J Γ σ H) (xo : XOk K T E X S0 J J H) {Q : VK}
    (q : ∀ v rr H1 H2, P rr.dt → Rel K T S0 J Γ σ H1 → Nx T J H H1 → Nx T J H1 H2 → Rel K T S0 J Γ σ H2 → RepR K (Sx S0 Γ) (Fre H1) H2 v rr → Q v H2) : tCall (spJ K T FJ) [] E' (tCons (tVar i) tr) σ H Q := by
  obtain ⟨es, hJ, _⟩ := r.getJ hj
  refine ⟨_, es, h S0 J σ H r xo _ fun vs ds H1 f r1 n1 rl => ?_⟩
  show spJ K T FJ ((V.ref j :: vs) ++ []) H1 _ E'
  rw [List.append_nil]
  refine ⟨Sx S0 Γ, j, vs, ds, _, rfl, rl, .inl (r1.js j hJ), r1.live, r1.tb, r1.jr j hJ, f, fun v rr H2 p n2 ok rv => ?_⟩
  exact q v rr H1 H2 p r1 n1 (n2.mono fun b z => by rw [z]; exact hJ) (r1.nxJ hJ n2 ok) rv
theorem x_callJ {i : Nat} {j : Addr} (hj : Γ[i]? = some (.jar j)) (h : EA K T E X tr Γ fun ds => FJ ds fun r => P r.dt) : EX K T E X (tCall (spJ K T FJ) [] E' (tCons (tVar i) tr)) Γ P := fun S0 J σ H r xo Q q =>
  jar_core hj h r xo fun v rr H1 H2 p r1 n1 n2 r2 rv => q v rr.dt H2 p r2 (n1.trans n2) rv.rep
theorem l_callJ {i : Nat} {j : Addr} (hj : Γ[i]? = some (.jar j)) (h : EA K T E X tr Γ fun ds => FJ ds fun r => ∃ es, r = .new es ∧ A es) : EL K T E X (tCall (spJ K T FJ) [] E' (tCons (tVar i) tr)) Γ A := fun S0 J σ H r xo Q q => by
  obtain ⟨es, hJ, _⟩ := r.getJ hj
  refine ⟨_, es, h S0 J σ H r xo _ fun vs ds H1 f r1 n1 rl => ?_⟩
  show spJ K T FJ ((V.ref j :: vs) ++ []) H1 _ E'
  rw [List.append_nil]
  refine ⟨Sx S0 Γ, j, vs, ds, _, rfl, rl, .inl (r1.js j hJ), r1.live, r1.tb, r1.jr j hJ, f, fun v rr H2 ⟨es, e, p⟩ n2 ok rv => ?_⟩
  subst e
  obtain ⟨l, xs, e, h1, h2, h3, h4⟩ := rv
  subst e
  have n2' : Nx T J H1 H2 := n2.mono fun b z => by rw [z]; exact hJ
  exact q l xs es H2 p (r1.nxJ hJ n2 ok) (n1.trans n2') (n1.dom _ h2) h3 h4
theorem Rel.go' {S0 J : Ad} {σ : L2.St} {H H1 : Hp} (r : Rel K T S0 J Γ σ H1) (n : Nx T J H H1) : Go T J Γ H Γ H1 := ⟨n.mono fun _ z => .inl z, fun p h => .inl h⟩
/-- one that changes a list of the caller's own -/
theorem s_callO {i : Nat} {p : Addr} {ds : List Dt} (hp : Γ[i]? = some (.own p ds)) (h : EA K T E X tr Γ fun es => FO ds es (fun _ ds' => N (Γ.set i (.own p ds'))) noX) :
    SW K T E X (tDrop (tCall (spO K T FO) [] E' (tCons (tVar i) tr))) Γ N R B C := fun S0 J σ H r xo D n rt b c => by
  obtain ⟨es, _⟩ := r.getO hp
  refine ⟨_, es, h S0 J σ H r xo.ex _ fun vs ws H1 f r1 n1 rl => ?_⟩
  obtain ⟨_, xs, e2, rx⟩ := r1.getO hp
  show spO K T FO ((V.ref p :: vs) ++ []) H1 _ E'
  rw [List.append_nil]
  have hm := mem_owned hp
  have sub : ∀ b, Rj (fun a => Sx S0 Γ a ∧ a ≠ p) p b → Sx S0 Γ b := fun b z => by
    rcases z with z | z
    · exact z.1
    · rw [z]; exact .inr hm
  have sub' : ∀ b, Sx S0 Γ b → Rj (fun a => Sx S0 Γ a ∧ a ≠ p) p b := fun b z => by
    by_cases hb : b = p
    · exact .inr hb
    · exact .inl ⟨z, hb⟩
  refine ⟨fun a => Sx S0 Γ a ∧ a ≠ p, p, xs, ds, vs, ws, _, noX, rfl, fun z => z.2 rfl, e2, rx.sub (.of sub), rl.sub (.of sub), fun a z => r1.live a z.1, r1.tb, f, fun v rr H2 xs' ds' pp n2 ep rx' rv => ?_, .none⟩
  -- the list at slot i has its new items
  have rx2 : RepL K (Sx S0 Γ) H2 xs' ds' := rx'.sub (.of sub')
  have nS : Nx T (Sx S0 Γ) H1 H2 := n2.mono fun b z => by rw [z]; exact .inr hm
  refine n _ σ H2 pp ?_ ((r1.go' n1).trans ⟨n2.mono fun b z => by rw [z]; exact .inr hm, fun q hq => .inl (by rw [owned_own hp] at hq; exact hq)⟩)
  have hns := r1.os p hm
  refine ⟨r1.js, fun a ha => (r1.jr a ha).nx n2 fun z => hns (by rw [← z]; exact r1.js _ ha), fun a ha z => r1.wf a ha (n2.dom a z), n2.tab r1.tb, by rw [owned_own hp]; exact r1.nd, by rw [owned_own hp]; exact r1.os, by rw [List.length_set]; exact r1.len, fun k o e h1 h2 => ?_⟩
  rw [Sx.same hp]
  by_cases hk : k = i
  · subst hk
    have hl := (List.getElem?_eq_some_iff.mp h2).1
    rw [List.length_set] at hl
    rw [List.getElem?_set_self hl] at h2
    cases h2
    rw [es] at h1
    cases h1
    exact ⟨rfl, xs', ep, rx2⟩
  · rw [List.getElem?_set_ne (Ne.symm hk)] at h2
    have q := r1.at_ k o e h1 h2
    cases e with
    | emp => trivial
    | val d => obtain ⟨v, e1, e2⟩ := q; exact ⟨v, e1, e2.nx nS⟩
    | own b bs =>
      obtain ⟨e1, ys, e2, e3⟩ := q
      have hne : b ≠ p := fun z => by
        subst z
        exact Rel.chO.nd_two r1.nd hp h2 (Ne.symm hk)
      exact ⟨e1, ys, n2.le _ _ e2 noT_lst hne, e3.nx nS⟩
    | owk b bs =>
      obtain ⟨e1, ys, e2, e3⟩ := q
      have hne : b ≠ p := fun z => by
        subst z
        exact Rel.chO.nd_twoK r1.nd hp h2 (Ne.symm hk)
      exact ⟨e1, ys, n2.le _ _ e2 noT_dK hne, e3.nx nS⟩
    | owo b C dx bs =>
      obtain ⟨e1, ys, e2, e3⟩ := q
      have hne : b ≠ p := fun z => by
        subst z
        exact Rel.chO.nd_twoO r1.nd hp h2 (Ne.symm hk)
      exact ⟨e1, ys, n2.le _ _ e2 noT_ins hne, e3.nx nS⟩
    | jar j => exact q
/-- w, l = f(..): a new list for slot k -/
theorem s_pairP {i k : Nat} (hik : i ≠ k) (h : EA K T E X tr Γ fun ds => F ds (fun r => ∃ d es, r = .pair d es ∧ ∀ p, p ∉ owned Γ → N ((Γ.set i (.val d)).set k (.own p es))) noX) :
    SW K T E X (tAsg (tCall (spD K T F) [] E' tr) (gTup K 2 (gCons (gName i) (gCons (gName k) gNil)))) Γ N R B C := fun S0 J σ H r xo D n rt b c =>
  h S0 J σ H r xo.ex _ fun vs ds H1 f r1 n1 rl => by
    rw [List.append_nil]
    refine ⟨Sx S0 Γ, ds, _, noX, rl, r1.live, r1.tb, f, fun v rr H2 ⟨d, es, e, pp⟩ n2 rv => ?_, .none⟩
    subst e
    obtain ⟨t, w, p, xs, e, h0, h1, hn, h2, ho, h3, h4, h5⟩ := rv
    subst e
    have n2J : Nx T J H1 H2 := n2.mono fun _ z => z.elim
    have r2 := r1.nx n2
    refine ⟨t, [w, .ref p], rfl, .inl (.inl h1), rfl, w, [.ref p], rfl, .ref p, [], rfl, rfl, ?_⟩
    have r3 := r2.setV (i := i) (h4.sub (.of Rj.sub))
    have q1 : ∀ z, z ∉ owned Γ → z ∉ owned (Γ.set i (.val d)) := fun z hz q => by
      rcases owned_set Γ z q with q | q
      · exact hz q
      · cases q
    have hno := r1.newNot ho
    have subx : ∀ b, Rj (Sx S0 (Γ.set i (.val d))) p b → Rj (Sx S0 Γ) p b := fun b z => by
      rcases z with (z | z) | z
      · exact .inl (.inl z)
      · rcases owned_set Γ b z with q | q
        · exact .inl (.inr q)
        · cases q
      · exact .inr z
    have fr0 := r1.notNew ho n2J
    refine n _ _ H2 (pp p hno) (r3.newO (i := k) (fun z => h2 (.inl z)) (q1 p hno) h3 (h5.sub (.of subx)) fun m o e g1 g2 => ?_) ?_
    · by_cases hm : m = i
      · subst hm
        have hl := (List.getElem?_eq_some_iff.mp g2).1
        rw [List.length_set] at hl
        have hs : m < σ.length := by rw [r.len]; exact hl
        rw [List.getElem?_set_self hl] at g2
        rw [List.getElem?_set_self hs] at g1
        cases g1; cases g2
        exact ⟨w, rfl, h4.sub (.of subx)⟩
      · rw [List.getElem?_set_ne (Ne.symm hm)] at g1 g2
        exact (fr0 m o e g1 g2).sub subx
    · have n12 := n1.trans n2J
      have gV : Go T J Γ H2 (Γ.set i (.val d)) H2 := .setV
      refine ⟨n12.mono fun _ z => .inl z, fun q hq => ?_⟩
      rcases owned_set _ q hq with z | z
      · rcases owned_set Γ q z with z | z
        · exact .inl z
        · cases z
      · rw [List.mem_singleton.mp z]; exact .inr (n1.dom _ ho)
/-! ### defs -/
theorem start_rel {n m : Nat} {Ns : List Str} {vs : List V} {ds : List Dt} (hl : ds.length = n) (hN : n + m = Ns.length) (rl : RepL K S0 H vs ds) (wf : ∀ a, S0 a → ¬ Fre H a) (tb : Tabs T H) :
    Rel K T S0 Non (ds.map Ent.val ++ List.replicate m .emp) (L2.start Ns vs) H := by
  have ow : owned (ds.map Ent.val ++ List.replicate m .emp) = [] := by
    unfold owned
    rw [List.flatMap_eq_nil_iff]
    intro e he
    rcases List.mem_append.mp he with h | h
    · obtain ⟨d, _, rfl⟩ := List.mem_map.mp h; rfl
    · rw [(List.mem_replicate.mp h).2]; rfl
  have hv := rl.len
  refine ⟨fun _ h => h.elim, fun _ h => h.elim, wf, tb, by rw [ow]; exact List.nodup_nil, by rw [ow]; exact fun _ h => (nomatch h), by simp [L2.start, hv]; omega, fun i o e h1 h2 => ?_⟩
  by_cases hi : i < ds.length
  · rw [List.getElem?_append_left (by simpa using hi), List.getElem?_map] at h2
    unfold L2.start at h1
    rw [List.getElem?_append_left (by simpa [hv] using hi), List.getElem?_map] at h1
    rw [List.getElem?_eq_getElem hi] at h2
    cases h2
    obtain ⟨v, hvv, rv⟩ := rl.get (List.getElem?_eq_getElem hi)
    rw [hvv] at h1
    cases h1
    exact ⟨v, rfl, rv.sub (.of fun b z => by
      rcases z with z | z
      · exact z
      · rw [ow] at z; cases z)⟩
  · rw [List.getElem?_append_right (by simpa using hi)] at h2
    have := List.mem_of_getElem? h2
    rw [(List.mem_replicate.mp this).2]
    trivial
theorem sx_nil {Γ0 : List Ent} (ow : owned Γ0 = []) : Sx Non Γ0 = Non := by
  funext a
  unfold Sx
  rw [ow]
  simp [Non]
theorem owned_vals (ds : List Dt) (m : Nat) : owned (ds.map Ent.val ++ List.replicate m .emp) = [] := by
  unfold owned
  rw [List.flatMap_eq_nil_iff]
  intro e he
  rcases List.mem_append.mp he with h | h
  · obtain ⟨d, _, rfl⟩ := List.mem_map.mp h; rfl
  · rw [(List.mem_replicate.mp h).2]; rfl
/-- a def's body does what its spec says -/
theorem fn_D {Ns : List Str} {vs : List V} {m : Nat} {t : TS} {Q : VK} (hF : ∀ ds P X, F ds P X → ds.length + m = Ns.length ∧ SW K T E X t (ds.map Ent.val ++ List.replicate m .emp) (fun _ => P (.val .non)) (fun r _ => P r) (fun _ => False) (fun _ => False))
    (h : spD K T F vs H Q E) : t { nx := fun _ H' => Q .non H', rt := Q } (L2.start Ns vs) H := by
  obtain ⟨S0, ds, P, X, rl, wf, tb, f, q, xo⟩ := h
  obtain ⟨hl, sw⟩ := hF ds P X f
  have ow := owned_vals ds m
  have en : ∀ {Γ' H'}, Go T Non (ds.map Ent.val ++ List.replicate m .emp) H Γ' H' → Nx T Non H H' := fun g => by
    have := g.nx
    rw [sx_nil ow] at this
    exact this
  refine sw S0 Non _ H (start_rel rfl hl rl wf tb) (by rw [sx_nil ow]; exact xo) _ (fun Γ' σ' H' p r g => q .non (.val .non) H' p (en g) .non) (fun r v Γ' σ' H' p _ g rv => q v r H' p (en g) (rv.mono fun a z => ?_)) (fun _ _ _ z => z.elim) (fun _ _ _ z => z.elim)
  rcases z with z | z
  · rw [ow] at z; cases z
  · exact z
/-- .. that is handed the jar -/
theorem fn_J {Ns : List Str} {vs : List V} {m : Nat} {t : TS} {Q : VK} (hF : ∀ j ds P, FJ ds P → 1 + ds.length + m = Ns.length ∧ SW K T E noX t (.jar j :: (ds.map Ent.val ++ List.replicate m .emp)) (fun _ => P (.val .non)) (fun r _ => P r) (fun _ => False) (fun _ => False))
    (h : spJ K T FJ vs H Q E) : t { nx := fun _ H' => Q .non H', rt := Q } (L2.start Ns vs) H := by
  obtain ⟨S0, j, ws, ds, P, ev, rl, hj, wf, tb, jo, f, q⟩ := h
  subst ev
  obtain ⟨hl, sw⟩ := hF j ds P f
  have hv := rl.len
  have r0 : Rel K T S0 Non (ds.map Ent.val ++ List.replicate m .emp) (ws.map some ++ List.replicate m none) H := by
    have := start_rel (Ns := List.replicate (ds.length + m) default) (m := m) rfl (by simp) rl wf tb
    unfold L2.start at this
    have e : (List.replicate (ds.length + m) (default : Str)).length - ws.length = m := by simp [hv]
    rw [e] at this
    exact this
  have ow : owned (.jar j :: (ds.map Ent.val ++ List.replicate m .emp)) = [] := owned_vals ds m
  have es : L2.start Ns (.ref j :: ws) = some (.ref j) :: (ws.map some ++ List.replicate m none) := by
    unfold L2.start
    have : Ns.length - (V.ref j :: ws).length = m := by simp only [List.length_cons]; omega
    rw [this]
    rfl
  rw [es]
  have sxe : Sx S0 (.jar j :: (ds.map Ent.val ++ List.replicate m .emp)) = Sx S0 (ds.map Ent.val ++ List.replicate m .emp) := Sx.eq (by rw [ow, owned_vals])
  have r1 : Rel K T S0 (fun a => a = j) (.jar j :: (ds.map Ent.val ++ List.replicate m .emp)) (some (.ref j) :: (ws.map some ++ List.replicate m none)) H := by
    refine ⟨fun a h => by rw [h]; exact hj, fun a h => by rw [h]; exact jo, wf, tb, by rw [ow]; exact List.nodup_nil, by rw [ow]; exact fun _ h => (nomatch h), by rw [List.length_cons, List.length_cons, r0.len], fun i o e h1 h2 => ?_⟩
    rw [sxe]
    cases i with
    | zero => cases h1; cases h2; exact ⟨rfl, rfl⟩
    | succ i =>
      have := r0.at_ i o e (by simpa using h1) (by simpa using h2)
      cases e with
      | emp => trivial
      | val d => exact this
      | own p ds => exact this
      | owk p ds => exact this
      | owo p C dx ds => exact this
      | jar j' => exact this.2.elim
  have en : ∀ {Γ' H'}, Go T (fun a => a = j) (.jar j :: (ds.map Ent.val ++ List.replicate m .emp)) H Γ' H' → Nx T (fun a => a = j) H H' := fun g => g.nx.mono fun b z => by
    rcases z with z | z
    · exact z
    · rw [ow] at z; cases z
  refine sw S0 (fun a => a = j) _ H r1 .none _ (fun Γ' σ' H' p r g => q .non (.val .non) H' p (en g) (r.jr j rfl) .non) (fun r v Γ' σ' H' p r2 g rv => q v r H' p (en g) (r2.jr j rfl) (rv.mono fun a z => ?_)) (fun _ _ _ z => z.elim) (fun _ _ _ z => z.elim)
  rcases z with z | z
  · rw [ow] at z; cases z
  · exact z
theorem start_tail {m : Nat} {ws : List V} {ds : List Dt} (rl : RepL K S0 H ws ds) (wf : ∀ a, S0 a → ¬ Fre H a) (tb : Tabs T H) : Rel K T S0 Non (ds.map Ent.val ++ List.replicate m .emp) (ws.map some ++ List.replicate m none) H := by
  have hv := rl.len
  have := start_rel (Ns := List.replicate (ds.length + m) default) (m := m) rfl (by simp) rl wf tb
  unfold L2.start at this
  have e : (List.replicate (ds.length + m) (default : Str)).length - ws.length = m := by simp [hv]
  rw [e] at this
  exact this
theorem start_own {m : Nat} {p : Addr} {xs ws : List V} {ds es : List Dt} (hs : ¬ S0 p) (hp : H p = some (.lst xs)) (rx : RepL K (Rj S0 p) H xs ds) (rw' : RepL K (Rj S0 p) H ws es) (wf : ∀ a, S0 a → ¬ Fre H a) (tb : Tabs T H) :
    Rel K T S0 Non (.own p ds :: (es.map Ent.val ++ List.replicate m .emp)) (some (.ref p) :: (ws.map some ++ List.replicate m none)) H := by
  have wf' : ∀ a, Rj S0 p a → ¬ Fre H a := fun a z q => by
    rcases z with z | z
    · exact wf a z q
    · rw [z] at q; exact q _ hp noT_lst
  have r0 := start_tail (T := T) (m := m) rw' wf' tb
  have ow : owned (.own p ds :: (es.map Ent.val ++ List.replicate m .emp)) = [p] := by
    show [p] ++ owned (es.map Ent.val ++ List.replicate m .emp) = [p]
    rw [owned_vals]; rfl
  have sx : ∀ b, Sx S0 (.own p ds :: (es.map Ent.val ++ List.replicate m .emp)) b → Rj S0 p b := fun b z => by
    rcases z with z | z
    · exact .inl z
    · rw [ow] at z; exact .inr (List.mem_singleton.mp z)
  refine ⟨fun _ h => h.elim, fun _ h => h.elim, wf, tb, by rw [ow]; simp, by rw [ow]; exact fun q hq => by rw [List.mem_singleton.mp hq]; exact hs, by rw [List.length_cons, List.length_cons, r0.len], fun i o e h1 h2 => ?_⟩
  cases i with
  | zero => cases h1; cases h2; exact ⟨rfl, xs, hp, rx.sub (.of sx)⟩
  | succ i =>
    exact (r0.at_ i o e (by simpa using h1) (by simpa using h2)).sub fun b z => .inl (sx b z)
/-- a def that is handed a list it may change -/
theorem fn_O {Ns : List Str} {vs : List V} {m : Nat} {t : TS} {Q : VK} (hF : ∀ p ds es P X, FO ds es P X → 1 + es.length + m = Ns.length ∧ SW K T E X t (.own p ds :: (es.map Ent.val ++ List.replicate m .emp))
      (fun Γ' => ∃ ds', Γ'[0]? = some (.own p ds') ∧ P (.val .non) ds') (fun r Γ' => ∃ ds', Γ'[0]? = some (.own p ds') ∧ P r ds') (fun _ => False) (fun _ => False))
    (h : spO K T FO vs H Q E) : t { nx := fun _ H' => Q .non H', rt := Q } (L2.start Ns vs) H := by
  obtain ⟨S0, p, xs, ds, ws, es, P, X, ev, hs, hp, rx, rw', wf, tb, f, q, xo⟩ := h
  subst ev
  obtain ⟨hl, sw⟩ := hF p ds es P X f
  have hv := rw'.len
  have est : L2.start Ns (.ref p :: ws) = some (.ref p) :: (ws.map some ++ List.replicate m none) := by
    unfold L2.start
    have : Ns.length - (V.ref p :: ws).length = m := by simp only [List.length_cons]; omega
    rw [this]
    rfl
  rw [est]
  have ow : owned (.own p ds :: (es.map Ent.val ++ List.replicate m .emp)) = [p] := by
    show [p] ++ owned (es.map Ent.val ++ List.replicate m .emp) = [p]
    rw [owned_vals]; rfl
  have sx : Sx Non (.own p ds :: (es.map Ent.val ++ List.replicate m .emp)) = fun a => a = p := by
    funext a
    unfold Sx
    rw [ow]
    simp [Non]
  have en : ∀ {Γ' H'}, Go T Non (.own p ds :: (es.map Ent.val ++ List.replicate m .emp)) H Γ' H' → Nx T (fun a => a = p) H H' := fun g => by
    have := g.nx
    rw [sx] at this
    exact this
  have fin : ∀ {Γ' σ' H' ds'}, Rel K T S0 Non Γ' σ' H' → Γ'[0]? = some (.own p ds') → ∃ xs', H' p = some (.lst xs') ∧ RepL K (Rj S0 p) H' xs' ds' := fun r h0 => by
    obtain ⟨_, xs', e2, rl⟩ := r.getO h0
    exact ⟨xs', e2, rl.sub (.of fun b z => by
      rcases z with z | z
      · exact .inl z
      · rw [z]; exact .inr (mem_owned h0))⟩
  refine sw S0 Non _ H (start_own hs hp rx rw' wf tb) (by rw [sx]; exact xo) _ (fun Γ' σ' H' ⟨ds', h0, pp⟩ r g => ?_) (fun r v Γ' σ' H' ⟨ds', h0, pp⟩ r2 g rv => ?_) (fun _ _ _ z => z.elim) (fun _ _ _ z => z.elim)
  · obtain ⟨xs', e2, rl⟩ := fin r h0
    exact q .non (.val .non) H' xs' ds' pp (en g) e2 rl .non
  · obtain ⟨xs', e2, rl⟩ := fin r2 h0
    refine q v r H' xs' ds' pp (en g) e2 rl (rv.mono fun a z => ?_)
    rcases z with z | z
    · rw [ow] at z; exact .inl (List.mem_singleton.mp z)
    · exact .inr z
/-- .. that changes the jar: it is a list of its own there -/
def intsD (l : List Int) : List Dt := l.map Dt.int
theorem RepL.ints : ∀ {l : List Int} {vs : List V}, RepL K S H vs (intsD l) → vs = l.map V.int
  | [], _, r => by cases r; rfl
  | i :: l, _, r => by
    cases r with
    | cons h r => cases h; rw [RepL.ints r]; rfl
theorem RepL.ofInts : ∀ {l : List Int}, RepL K S H (l.map V.int) (intsD l)
  | [] => .nil
  | _ :: _ => .cons (.int _) RepL.ofInts
/-- a def that draws from the jar -/
theorem fn_JO {Ns : List Str} {vs : List V} {m : Nat} {t : TS} {Q : VK} (hF : ∀ j a b c ds P, FJ ds P → 0 ≤ b → b < 2147483647 → 1 + ds.length + m = Ns.length ∧ SW K T E noX t (.own j (intsD [a, b, c]) :: (ds.map Ent.val ++ List.replicate m .emp))
      (fun _ => False) (fun r Γ' => (∃ i, r = .val (.int i)) ∧ P r ∧ ∃ a' b' c', Γ'[0]? = some (.own j (intsD [a', b', c'])) ∧ 0 ≤ b' ∧ b' < 2147483647) (fun _ => False) (fun _ => False))
    (h : spJ K T FJ vs H Q E) : t { nx := fun _ H' => Q .non H', rt := Q } (L2.start Ns vs) H := by
  obtain ⟨S0, j, ws, ds, P, ev, rl, hj, wf, tb, jo, f, q⟩ := h
  subst ev
  obtain ⟨a, b, c, hp, hb1, hb2⟩ := jo
  obtain ⟨hl, sw⟩ := hF j a b c ds P f hb1 hb2
  have hv := rl.len
  have est : L2.start Ns (.ref j :: ws) = some (.ref j) :: (ws.map some ++ List.replicate m none) := by
    unfold L2.start
    have : Ns.length - (V.ref j :: ws).length = m := by simp only [List.length_cons]; omega
    rw [this]
    rfl
  rw [est]
  have sub : ∀ b, Rj (fun a => S0 a ∧ a ≠ j) j b → S0 b := fun b z => by
    rcases z with z | z
    · exact z.1
    · rw [z]; exact hj
  have r0 := start_own (T := T) (m := m) (S0 := fun a => S0 a ∧ a ≠ j) (ds := intsD [a, b, c]) (fun z => z.2 rfl) hp (RepL.ofInts (l := [a, b, c])) (rl.sub (.of sub)) (fun a z => wf a z.1) tb
  have ow : owned (.own j (intsD [a, b, c]) :: (ds.map Ent.val ++ List.replicate m .emp)) = [j] := by
    show [j] ++ owned (ds.map Ent.val ++ List.replicate m .emp) = [j]
    rw [owned_vals]; rfl
  refine sw _ Non _ H r0 .none _ (fun _ _ _ z => z.elim) (fun r v Γ' σ' H' ⟨⟨i, ei⟩, pp, a', b', c', h0, h1, h2⟩ r2 g rv => ?_) (fun _ _ _ z => z.elim) (fun _ _ _ z => z.elim)
  subst ei
  obtain ⟨_, xs', e2, rl'⟩ := r2.getO h0
  rw [RepL.ints rl'] at e2
  cases (show Rep K _ H' v (.int i) from rv)
  exact q _ (.val (.int i)) H' pp (g.nx.mono fun b z => by
    rcases z with z | z
    · exact z.elim
    · rw [ow] at z; exact List.mem_singleton.mp z) ⟨a', b', c', e2, h1, h2⟩ (.int i)
end
end Lp

set_option Elab.async false
set_option linter.all false
set_option maxRecDepth 100000
set_option maxHeartbeats 4000000
/-! L12: raises, and a def that is handed a lambda, over data. Own work. -/
namespace Lp
open PySem PySem.Spec PyProof.Rows L2 LamX
/-- what such a def tells of a raised error -/
def HX (K : Fg) (P : Dt → Prop) : List HCl → Addr → List (Str × Dt) → Prop
  | [], _, _ => False
  | (C', nm, fo) :: r, C, fs => ∃ b, PySem.W.exmOne K (.ref C) (.ref C') = some b ∧ (b = true → (match fo with
      | some f => C = C' ∧ ∃ d, fs.lookup f = some d ∧ P (.tup [.str nm, d])
      | none => P (.tup [.str nm, .non]))) ∧ (b = false → HX K P r C fs)
section
variable {K : Fg} {T : Tbl} {E E' : XK} {X : XP} {S S' S0 J O O' : Ad} {H H1 H2 : Hp} {Γ Γ1 Γ' : List Ent} {σ σ' : L2.St}
variable {N N' : List Ent → Prop} {R : Rt → List Ent → Prop} {B C : List Ent → Prop} {ts tu : TS} {te ta tb : TE} {tt : TT} {tr : TA} {P : Dt → Prop} {A : List Dt → Prop} {ti : TI} {F : FS} {FJ : JS} {FO : OS}
theorem s_raise {Cl : Addr} {f : Str} (h : EX K T E X te Γ fun d => X Cl [(f, d)]) : SW K T E X (tRz Cl (spX Cl f) E (tCons te tNil)) Γ N R B C := fun S0 J σ H r xo D n rt b c => by
  show tMkO Cl (spX Cl f) [] (tCons te tNil) σ H fun cls d H' => E cls d H'
  refine h S0 J σ H r xo.ex _ fun v d H1 p r1 n1 rv => ?_
  refine rz_k fun dx hd => ?_
  have n2 : ∀ {S : Ad}, Nx T S H1 (upd H1 dx (.xd [(f, v)])) := fun {S} => .new hd noT_xd
  exact xo Cl [(f, d)] [(f, v)] dx _ p ((n1.mono fun _ z => .inl z).trans n2) (n1.dom _ (.of hd)) upd_same (.cons ((rv.sub (.of Sx.sub0)).nx n2) .nil) fun a ha => (r1.nx n2).jr a ha
theorem RepF.lookup {f : Str} {d : Dt} : ∀ {xs : List (Str × V)} {fs : List (Str × Dt)}, RepF K S H xs fs → fs.lookup f = some d → ∃ v, xs.lookup f = some v ∧ Rep K S H v d
  | _, _, .nil, h => by cases h
  | _, _, @RepF.cons _ _ _ k v d' xs fs r t, h => by
    rw [List.lookup_cons] at h ⊢
    cases hk : f == k with
    | true => rw [hk] at h; cases h; exact ⟨v, rfl, r⟩
    | false => rw [hk] at h; exact RepF.lookup t h
/-- from the jars on, all that is told stands -/
theorem Rel.nxJJ (rc : Rel K T S0 J Γ σ H) (nz : Nx T J H H1) (jz : ∀ a, J a → JarOk H1 a) : Rel K T S0 J Γ σ H1 := by
  refine ⟨rc.js, jz, fun a h z => rc.wf a h (nz.dom a z), nz.tab rc.tb, rc.nd, rc.os, rc.len, fun k o e h1 h2 => ?_⟩
  have q := rc.at_ k o e h1 h2
  have m : Nx T (Sx S0 Γ) H H1 := nz.mono fun b z => .inl (rc.js b z)
  cases e with
  | emp => trivial
  | val d => obtain ⟨v, e1, e2⟩ := q; exact ⟨v, e1, e2.nx m⟩
  | own b ds => obtain ⟨e1, xs, e2, e3⟩ := q; exact ⟨e1, xs, nz.le _ _ e2 noT_lst (fun z => rc.os b (mem_owned h2) (rc.js _ z)), e3.nx m⟩
  | owk b ds => obtain ⟨e1, xs, e2, e3⟩ := q; exact ⟨e1, xs, nz.le _ _ e2 noT_dK (fun z => rc.os b (mem_ownedK h2) (rc.js _ z)), e3.nx m⟩
  | owo b C dx ds => obtain ⟨e1, xs, e2, e3⟩ := q; exact ⟨e1, xs, nz.le _ _ e2 noT_ins (fun z => rc.os b (mem_ownedO h2) (rc.js _ z)), e3.nx m⟩
  | jar k => exact q
theorem pair_size {v w : V} : [v, w].length ≤ sizeLine := by show 2 ≤ sizeLine; decide
/-- a new pair of a word and a value -/
theorem new_pair {w : Str} {v : V} {d : Dt} {p : Addr} (hp : H p = none) (hs : ¬ S p) (rv : Rep K S H v d) : Rep K S (upd H p (.tup [.str w, v])) (.ref p) (.tup [.str w, d]) :=
  .tup (.inl ⟨hs, .inl upd_same⟩) (.cons (.str w) (.cons (rv.nx (T := []) (.new hp noT_tup)) .nil))
theorem x_told {w : Str} {L : List HCl} {Pt : Dt → Prop} {X' : XP} {t : XK → TE} (h : ∀ E', EX K T E' X' (t E') Γ Pt) (hok : ∀ d, Pt d → P (.tup [.str w, d])) (hx : ∀ Cl fs, X' Cl fs → HX K P L Cl fs)
    (ow : owned Γ = []) : EX K T E X (tLam T (TTh K w L) t) Γ P := fun S0 J σ H r xo Q q => by
  refine ⟨r.tb, fun H1 e tb => ?_⟩
  have n1 : ∀ {S : Ad}, Nx T S H H1 := fun {S} => .of_ext e tb
  have r1 := r.nx n1
  have sx0 : Sx S0 Γ = S0 := by
    funext a
    unfold Sx
    rw [ow]
    simp
  have fin : ∀ {H2 : Hp} {v : V} {d : Dt} {nm : Str}, Rel K T S0 J Γ σ H2 → Nx T J H H2 → Rep K (Sx S0 Γ) H2 v d → P (.tup [.str nm, d]) → ∀ p, H2 p = none → Q (.ref p) (upd H2 p (.tup [.str nm, v])) := fun {H2 v d nm} r2 n2 rv pp p hp => by
    have n3 : ∀ {S : Ad}, Nx T S H2 (upd H2 p (.tup [.str nm, v])) := fun {S} => .new hp noT_tup
    exact q _ _ _ pp (r2.nx n3) (n2.trans n3) (new_pair hp (r2.fresh (.of hp)) rv)
  refine h (hCh K Q L) S0 J σ H1 r1 (fun Cl fs xs dx H2 x' n2 fd ed rf jz => ?_) _ fun v d H2 p r2 n2 rv => ⟨pair_size, fin r2 (n1.trans n2) rv (hok d p)⟩
  have r2 : Rel K T S0 J Γ σ H2 := r1.nxJJ n2 jz
  have n12 : Nx T J H H2 := n1.trans n2
  have go : ∀ L : List HCl, HX K P L Cl fs → hCh K Q L (.ref Cl) (some dx) H2 := fun L => by
    induction L with
    | nil => exact fun z => z.elim
    | cons c L ih =>
      obtain ⟨C', nm, fo⟩ := c
      intro hz
      obtain ⟨b, hb, hy, hn⟩ := hz
      refine ⟨b, hb, fun e => ?_, fun e => ih (hn e)⟩
      have hy := hy e
      cases fo with
      | some f =>
        obtain ⟨ec, d, hl, pp⟩ := hy
        obtain ⟨v, hv, rv⟩ := rf.lookup hl
        exact ⟨by rw [ec], dx, xs, v, rfl, ed, hv, fin r2 n12 (by rw [sx0]; exact rv) pp⟩
      | none => exact fin r2 n12 .non hy
  exact go L (hx Cl fs x')
end
end Lp

set_option Elab.async false
set_option linter.all false
set_option maxRecDepth 100000
set_option maxHeartbeats 4000000
/-! L13: what the head tells, by places; exceptions; a lambda handed over. Own work. -/
namespace Lp
open PySem PySem.Spec PyProof.Rows L2 LamX
/-- an own exception's class, as OexC wishes it -/
def oexB (K : Fg) (C : Addr) : Bool := (match K.lookup C with
  | some ⟨.type t, _, .cls cd, sl⟩ => (match cd.mro, sl.toList with
    | .ref C' :: bm, [_, _, _, _, some (.builtin n), _] => decide (t = "type") && (decide (C' = C) && (decide (n = "ValueError.__new__") && (!cd.hasDel && (cd.hasDict && PySem.HandSPX.refsVE bm))))
    | _, _ => false)
  | _ => false) && (decide (PySem.W.findIn K (.ref C) "__setattr__" = some (some (.builtin "object.__setattr__"))) && (decide (PySem.W.subIn K (.ref C) (.type "BaseException") = some true) && (decide (PySem.W.typeIn K (.ref C) = some (.type "type")) && PySem.W.keepIn K (.ref C))))
theorem ba2 {a b : Bool} (h : (a && b) = true) : a = true ∧ b = true := Bool.and_eq_true_iff.mp h
theorem oexB_ok {K : Fg} {C : Addr} (h : oexB K C = true) : OexC K C := by
  obtain ⟨q, h⟩ := ba2 h
  obtain ⟨h1, h⟩ := ba2 h
  obtain ⟨h2, h⟩ := ba2 h
  obtain ⟨h3, h4⟩ := ba2 h
  refine ⟨?_, of_decide_eq_true h1, of_decide_eq_true h2, of_decide_eq_true h3, h4⟩
  split at q
  · rename_i t dd cd sl ho
    split at q
    · rename_i C' bm k0 k1 k2 k3 n k5 hm hs
      obtain ⟨q1, q⟩ := ba2 q
      obtain ⟨q2, q⟩ := ba2 q
      obtain ⟨q3, q⟩ := ba2 q
      obtain ⟨q4, q⟩ := ba2 q
      obtain ⟨q5, q6⟩ := ba2 q
      have e1 := of_decide_eq_true q1
      have e2 := of_decide_eq_true q2
      have e3 := of_decide_eq_true q3
      subst e1 e2 e3
      obtain ⟨nm, bs, mro, ns, qn, hd, sn, sub, ab, col, del⟩ := cd
      dsimp only at hm q4 q5
      have q4' : del = false := by simpa using q4
      subst hm q4' q5
      have hsl : sl = #[k0, k1, k2, k3, some (.builtin "ValueError.__new__"), k5] := by
        obtain ⟨l⟩ := sl
        simp only at hs
        rw [hs]
      subst hsl
      exact ⟨nm, qn, ns, bs, bm, sn, sub, ab, col, dd, k0, k1, k2, k3, k5, ho, q6⟩
    · cases q
  · cases q
/-- an own exception with an __init__ of its own that keeps what it gets in f -/
def excB (K : Fg) (x f : Str) : Bool := oexB K (He.ga K x) && (xfB K (He.ga K x) && (decide (PySem.W.findIn K (.ref (He.ga K x)) f = some none) &&
  (decide (PySem.W.findIn K (.ref (He.ga K x)) "__init__" = some (some (.ref (He.ma K (He.ga K x) "__init__")))) && decide (PySem.W.typeIn K (.ref (He.ma K (He.ga K x) "__init__")) = some (.type "function")))))
/-- an own base class whose __init__ is ValueError's -/
def stB (K : Fg) (C : Addr) : Bool := PySem.W.readsIn K C (.type "type") && (decide (PySem.W.specialIn K (.ref C) "__getattribute__" = some (some (.builtin "type.__getattribute__"))) && (match PySem.W.findCls K (.ref C) (.type "type") "__init__" with
  | some (.val (.builtin n)) => decide (n = "ValueError.__init__")
  | _ => false))
theorem stB_ok {K : Fg} {C : Addr} (h : stB K C = true) : StBase K C := by
  obtain ⟨h1, h⟩ := ba2 h
  obtain ⟨h2, h3⟩ := ba2 h
  refine ⟨⟨h1, of_decide_eq_true h2⟩, ?_⟩
  split at h3
  · rename_i n e
    rw [e, of_decide_eq_true h3]
  · cases h3
/-- what the head tells, at (K, mg) -/
structure HdF (fa : List He.Fa) (fn : List He.DefD) (tf : List He.Defn) (ex : Fg → Bool) (w : World) (K : Fg) (mg : Str → Option Value) (base : Heap) : Prop where
  ex : ∃ h, K.In h ∧ h.Ns mainGlobals mg ∧ He.SaysX fa fn [] tf ex w h K
  tb : ∀ p ∈ tf, TabB base mg (He.cT K p).1 (He.cT K p).2
section
variable {fa : List He.Fa} {fn : List He.DefD} {tf : List He.Defn} {ex : Fg → Bool} {w : World} {K : Fg} {mg : Str → Option Value} {base : Heap} (T : HdF fa fn tf ex w K mg base)
include T
theorem HdF.glo (i : Nat) {x : Str} (h : fa[i]? = some (.glo x) := by rfl) : mg x = some (.ref (He.ga K x)) := by
  obtain ⟨h0, X, G, c⟩ := T.ex
  exact He.glo_ok X G (c.t.d.fact i h)
theorem HdF.free (i : Nat) {x : Str} (h : fa[i]? = some (.free x) := by rfl) : mg x = none := by
  obtain ⟨h0, X, G, c⟩ := T.ex
  exact He.free_ok X G (c.t.d.fact i h)
theorem HdF.int (i : Nat) {x : Str} {n : Int} (h : fa[i]? = some (.int x n) := by rfl) : ∃ u, mg x = some u ∧ RelV (.int n) u := by
  obtain ⟨h0, X, G, c⟩ := T.ex
  obtain ⟨t, e⟩ := He.int_ok X G (c.t.d.fact i h)
  exact ⟨_, e, t, rfl⟩
theorem HdF.str (i : Nat) {x z : Str} (h : fa[i]? = some (.str x z) := by rfl) : ∃ u, mg x = some u ∧ RelV (.str z) u := by
  obtain ⟨h0, X, G, c⟩ := T.ex
  obtain ⟨t, e⟩ := He.str_ok X G (c.t.d.fact i h)
  exact ⟨_, e, t, rfl⟩
theorem HdF.exm (i : Nat) {x y : Str} {b : Bool} (h : fa[i]? = some (.exm x y b) := by rfl) : PySem.W.exmOne K (.ref (He.ga K x)) (.ref (He.ga K y)) = some b := by
  obtain ⟨h0, X, G, c⟩ := T.ex
  have e : He.Fa.ok K (.exm x y b) = true := c.t.d.fact i h
  exact of_decide_eq_true e
theorem HdF.def_ (i : Nat) {d : He.DefD} (h : fn[i]? = some d := by rfl) : ∃ fd, FunD K d.name d.qual d.params d.body d.scope (d.dvs K) (d.kws K) (He.fAd K d.at_) fd := by
  obtain ⟨h0, X, G, c⟩ := T.ex
  exact c.t.d.def_ i h
theorem HdF.more : ex K = true := by
  obtain ⟨h0, X, G, c⟩ := T.ex
  exact c.more
end
/-! ### texts in a row: a < b for pairs of texts -/
def rLtP (K : Fg) : R2 := fun x y H Q => ∃ (a b : Addr) (s1 s2 t1 t2 : Str), x = .ref a ∧ y = .ref b ∧ SqT K H a [.str s1, .str s2] ∧ SqT K H b [.str t1, .str t2] ∧
  Q (.bl (if s1 = t1 then decide (s2.cps.toList < t2.cps.toList) && !decide (s2 = t2) else decide (s1.cps.toList < t1.cps.toList))) H
theorem two_strs {vs : List Value} {a b : Str} (r : Vals [.str a, .str b] vs) : ∃ t u, vs = [.str a t, .str b u] := by
  cases r with
  | cons r1 r =>
    cases r with
    | cons r2 r =>
      cases r
      obtain ⟨t, rfl⟩ := r1
      obtain ⟨u, rfl⟩ := r2
      exact ⟨t, u, rfl⟩
theorem op_ltP {X : Cx} (hu : X.A.units < cLine) : OpR X (compareOp .Lt) (rLtP X.K) := by
  intro pins s σ H x y v u Q I rx ry h
  obtain ⟨a, b, s1, s2, t1, t2, rfl, rfl, ha, hb, q⟩ := h
  cases rx
  cases ry
  obtain ⟨its, r1, p1, _⟩ := I.tuple ha
  obtain ⟨its2, r2, p2, _⟩ := I.tuple hb
  obtain ⟨k1, k2, e1⟩ := two_strs r1
  obtain ⟨m1, m2, e2⟩ := two_strs r2
  subst e1 e2
  have R := Ob.RcOp.tuples_lt (A := X.A) (s := s) (e := fun j => if j = 0 then s1 == t1 else s2 == t2) (r := fun j => if j = 0 then decide (s1.cps.toList < t1.cps.toList) else decide (s2.cps.toList < t2.cps.toList)) p1 p2 hu (fun j h1 h2 => by
    match j, h1, h2 with
    | 0, _, _ => exact SeqAt.EqAt.str_str _ _ _ _
    | 1, _, _ => exact SeqAt.EqAt.str_str _ _ _ _) (fun j h1 h2 _ => by
    match j, h1, h2 with
    | 0, _, _ => exact fun _ _ _ _ h => PyProof.Rows.lt_str h
    | 1, _, _ => exact fun _ _ _ _ h => PyProof.Rows.lt_str h)
  have z : wpAny (model X.prog X.w) X.A (compareOp .Lt (.ref a) (.ref b)) (EP X pins σ Q) X.xe s := R X.prog X.w X.xe (EP X pins σ Q) (by
    refine ⟨.bl _, H, I, rfl, ?_⟩
    have e : Ob.lexAt (fun j => if j = 0 then s1 == t1 else s2 == t2) (fun j => if j = 0 then decide (s1.cps.toList < t1.cps.toList) else decide (s2.cps.toList < t2.cps.toList)) (decide ((2 : Nat) < 2)) 0 (min 2 2) =
        (if s1 = t1 then decide (s2.cps.toList < t2.cps.toList) && !decide (s2 = t2) else decide (s1.cps.toList < t1.cps.toList)) := by
      show Ob.lexAt _ _ _ 0 2 = _
      rw [Ob.lexAt_succ]
      by_cases q1 : s1 = t1
      · subst q1
        rw [if_pos (by simp), Ob.lexAt_succ, if_pos rfl]
        by_cases q2 : s2 = t2
        · subst q2
          rw [if_pos (by simp), Ob.lexAt_zero]; simp
        · rw [if_neg (by simp [q2])]; simp [q2]
      · rw [if_neg (by simp [q1]), if_neg q1]; simp
    rw [← e] at q
    exact q)
  exact z
def vLt (K : Fg) : R2 := fun x y H Q => uLt x y H Q ∨ rLtP K x y H Q
theorem op_vLt {X : Cx} (hu : X.A.units < cLine) : OpR X (compareOp .Lt) (vLt X.K) := op_uLt.or (op_ltP hu)
/-- the units that a def's room leaves -/
theorem units0 {k : Nat} {A : Around} (r : Room k A) : A.units < cLine := by have := r.un; omega
section
variable {K : Fg} {T : Tbl} {E E' : XK} {X : XP} {S S' S0 J O O' : Ad} {H H1 H2 : Hp} {Γ Γ1 Γ' : List Ent} {σ σ' : L2.St} {P : Dt → Prop} {ta tb te : TE}
theorem x_ltV (ha : EX K T E X ta Γ fun x => EX K T E X tb Γ fun y => ∃ i j, x = .int i ∧ y = .int j ∧ P (.bl (decide (i < j)))) : EX K T E X (tOp (vLt K) ta tb) Γ P :=
  x_ii (P2 := fun _ _ => True) (fun i j S H => .bl _) (fun i j H Q _ q => .inl (.inl ⟨i, j, rfl, rfl, q⟩)) (ha.imp fun x hx => hx.imp fun y ⟨i, j, h1, h2, p⟩ => ⟨i, j, h1, h2, trivial, p⟩)
theorem x_ltVS (ha : EX K T E X ta Γ fun x => EX K T E X tb Γ fun y => ∃ i j, x = .str i ∧ y = .str j ∧ P (.bl (decide (i.cps.toList < j.cps.toList)))) : EX K T E X (tOp (vLt K) ta tb) Γ P :=
  x_op (ha.imp fun x hx => hx.imp fun y ⟨i, j, ex, ey, p⟩ S0 J σ H v w rl rv rw' Q q => by
    subst ex; subst ey
    cases rv; cases rw'
    exact .inl (.inr ⟨i, j, rfl, rfl, q _ _ H p rl .refl (.bl _)⟩))
theorem RepL.str2 {vs : List V} {a b : Str} (r : RepL K S H vs [.str a, .str b]) : vs = [.str a, .str b] := RepL.strs (bs := [a, b]) r
theorem x_ltVP (ha : EX K T E X ta Γ fun x => EX K T E X tb Γ fun y => ∃ s1 s2 t1 t2, x = .tup [.str s1, .str s2] ∧ y = .tup [.str t1, .str t2] ∧
      P (.bl (if s1 = t1 then decide (s2.cps.toList < t2.cps.toList) && !decide (s2 = t2) else decide (s1.cps.toList < t1.cps.toList)))) : EX K T E X (tOp (vLt K) ta tb) Γ P :=
  x_op (ha.imp fun x hx => hx.imp fun y ⟨s1, s2, t1, t2, ex, ey, p⟩ S0 J σ H v w rl rv rw' Q q => by
    subst ex; subst ey
    cases rv with
    | tup h1 r1 =>
      cases rw' with
      | tup h2 r2 =>
        rw [r1.str2] at h1
        rw [r2.str2] at h2
        exact .inr ⟨_, _, s1, s2, t1, t2, rfl, rfl, h1.sq, h2.sq, q _ _ H p rl .refl (.bl _)⟩)
end
/-! ### x(lambda: ..), x a def whose function the head tells -/
section
variable {X : Cx}
theorem pe_lamD {T : Tbl} {TT : (XK → Hp → VK → Prop) → Hp → VK → Prop} {x a : Str} {g c P : Addr} {k : Nat} {pg : Arguments} {bg : List Stmt} {sg : Scope} {fd : FuncData} {Ng : List Str}
    {params : Arguments} {body : Expr} {scope : Scope} {t : XK → TE} {p lpos pos : Pos} (F : FunD X.K x x pg bg sg [] [] g fd) (hb : L2.Binds X.K fd [a] []) (hg : Gl X x) (hm : X.mg x = some (.ref g)) (Sg : FnScope Ng [a] sg) (hNg : Ng[0]? = some a) (hva : Vis sg a)
    (hG : ∀ cdv, GivesTo X Ng x sg g cdv bg a (X.env.qual ++ "<lambda>") TT)
    (TB : TabB X.base X.mg c P) (hcode : X.env.code = .ref c) (hmT : (P, X.env.qual ++ "<lambda>") ∈ T) (hu : ∀ p ∈ T, p.1 = P → p.2 = X.env.qual ++ "<lambda>") (hr : Room (k + 2) X.A) (L : LamS X.env.scope scope) (hdef : defaultsOf params X.env = ([], []))
    (hbind : ∀ (q : Str) (cl : List (Str × Addr)) (pm cv ctv : Value), bindArgs (PySem.W.kla_fn "<lambda>" q params body scope cl pm cv ctv) ⟨[], []⟩ = pure [])
    (hbody : ∀ (A : Around) (outer : List Env) (s : Shared) (H : Hp) (E : XK) (f c' : Addr), Room k (A.deeper (lamEnv X scope s.heap.objs.size f c')) → PE (lamCx X A outer s H E scope f c') body (t E))
    (hdb : (x == ("__debug__" : Str)) = false := by decide) (hd : (a == ("__debug__" : Str)) = false := by decide) (hcd : (a == ("__classdict__" : Str)) = false := by decide) :
    PE X (.Call (.Name x p) [.Lambda params body scope lpos] [] pos) (tLam T TT t) := by
  obtain ⟨oc, od, dV, kV, doc, pm, an, cdv, ct, osl, rfl, lk, hcd', _, _⟩ := F.ex
  exact pe_lamcall hg hm F.kp lk hcd' hb Sg hNg hva (hG cdv) TB hcode hmT hu hr L hdef hbind hbody hdb hd hcd
end
end Lp

set_option Elab.async false
set_option linter.all false
set_option maxRecDepth 100000
set_option maxHeartbeats 4000000
/-! L14: what a def is to keep, in one line; the lambdas' tables. Own work. -/
namespace Lp
open PySem PySem.Spec PyProof.Rows L2 LamX
abbrev eN : XK := fun _ _ _ => False
/-- n slots, m of them empty at first -/
def OkD (K : Fg) (T : Tbl) (E : XK) (F : FS) (n m : Nat) (t : TS) : Prop := ∀ ds P X, F ds P X → ds.length + m = n ∧ SW K T E X t (ds.map Ent.val ++ List.replicate m .emp) (fun _ => P (.val .non)) (fun r _ => P r) (fun _ => False) (fun _ => False)
def OkJ (K : Fg) (T : Tbl) (F : JS) (n m : Nat) (t : TS) : Prop := ∀ (E : XK) j ds P, F ds P → 1 + ds.length + m = n ∧ SW K T E noX t (.jar j :: (ds.map Ent.val ++ List.replicate m .emp)) (fun _ => P (.val .non)) (fun r _ => P r) (fun _ => False) (fun _ => False)
def OkJO (K : Fg) (T : Tbl) (F : JS) (n m : Nat) (t : TS) : Prop := ∀ (E : XK) j a b c ds P, F ds P → 0 ≤ b → b < 2147483647 → 1 + ds.length + m = n ∧ SW K T E noX t (.own j (intsD [a, b, c]) :: (ds.map Ent.val ++ List.replicate m .emp))
  (fun _ => False) (fun r Γ' => (∃ i, r = .val (.int i)) ∧ P r ∧ ∃ a' b' c', Γ'[0]? = some (.own j (intsD [a', b', c'])) ∧ 0 ≤ b' ∧ b' < 2147483647) (fun _ => False) (fun _ => False)
def OkO (K : Fg) (T : Tbl) (E : XK) (F : OS) (n m : Nat) (t : TS) : Prop := ∀ p ds es P X, F ds es P X → 1 + es.length + m = n ∧ SW K T E X t (.own p ds :: (es.map Ent.val ++ List.replicate m .emp))
  (fun Γ' => ∃ ds', Γ'[0]? = some (.own p ds') ∧ P (.val .non) ds') (fun r Γ' => ∃ ds', Γ'[0]? = some (.own p ds') ∧ P r ds') (fun _ => False) (fun _ => False)
section
variable {K : Fg} {T : Tbl} {E : XK} {H : Hp} {F : FS} {FJ : JS} {FO : OS} {Ns : List Str} {vs : List V} {m : Nat} {t : TS} {Q : VK}
theorem OkD.body (w : OkD K T E F Ns.length m t) (h : spD K T F vs H Q E) : t { nx := fun _ H' => Q .non H', rt := Q } (L2.start Ns vs) H := fn_D w h
theorem OkJ.body (w : OkJ K T FJ Ns.length m t) (h : spJ K T FJ vs H Q E) : t { nx := fun _ H' => Q .non H', rt := Q } (L2.start Ns vs) H := fn_J (w E) h
theorem OkJO.body (w : OkJO K T FJ Ns.length m t) (h : spJ K T FJ vs H Q E) : t { nx := fun _ H' => Q .non H', rt := Q } (L2.start Ns vs) H := fn_JO (w E) h
theorem OkO.body (w : OkO K T E FO Ns.length m t) (h : spO K T FO vs H Q E) : t { nx := fun _ H' => Q .non H', rt := Q } (L2.start Ns vs) H := fn_O w h
theorem OkD.len {n k : Nat} (w : OkD K T E F n m t) (h : spD K T F vs H Q E) (e : k + m = n := by decide) : vs.length = k := by
  obtain ⟨S0, ds, P, X, rl, _, _, f, _⟩ := h
  have := (w ds P X f).1
  rw [rl.len]; omega
theorem OkJ.len {n k : Nat} (w : OkJ K T FJ n m t) (h : spJ K T FJ vs H Q E) (e : k + m = n := by decide) : vs.length = k := by
  obtain ⟨S0, j, ws, ds, P, ev, rl, _, _, _, _, f, _⟩ := h
  have := (w E j ds P f).1
  rw [ev, List.length_cons, rl.len]; omega
theorem OkJO.len {n k : Nat} (w : OkJO K T FJ n m t) (h : spJ K T FJ vs H Q E) (e : k + m = n := by decide) : vs.length = k := by
  obtain ⟨S0, j, ws, ds, P, ev, rl, _, _, _, jo, f, _⟩ := h
  obtain ⟨a, b, c, _, h1, h2⟩ := jo
  have := (w E j a b c ds P f h1 h2).1
  rw [ev, List.length_cons, rl.len]; omega
theorem OkO.len {n k : Nat} (w : OkO K T E FO n m t) (h : spO K T FO vs H Q E) (e : k + m = n := by decide) : vs.length = k := by
  obtain ⟨S0, p, xs, ds, ws, es, P, X, ev, _, _, _, rl, _, _, f, _⟩ := h
  have := (w p ds es P X f).1
  rw [ev, List.length_cons, rl.len]; omega
end
/-! ### tables of the defs that hold a lambda -/
def tabsOf (tf : List He.Defn) (K : Fg) : Tbl := tf.map fun q => ((He.cT K q).2, (q.1 ++ ".<locals>.") ++ "<lambda>")
theorem tabs_in {tf : List He.Defn} {K : Fg} {q : He.Defn} (h : q ∈ tf) : ((He.cT K q).2, (q.1 ++ ".<locals>.") ++ "<lambda>") ∈ tabsOf tf K := List.mem_map.mpr ⟨q, h, rfl⟩
theorem nd_inj {α β : Type} {f : α → β} : ∀ {l : List α}, (l.map f).Nodup → ∀ {a b : α}, a ∈ l → b ∈ l → f a = f b → a = b
  | [], _, _, _, h, _, _ => nomatch h
  | x :: l, nd, a, b, ha, hb, e => by
    have nd' : (f x :: l.map f).Nodup := nd
    obtain ⟨n1, n2⟩ := List.nodup_cons.mp nd'
    rcases List.mem_cons.mp ha with ha | ha
    · rcases List.mem_cons.mp hb with hb | hb
      · rw [ha, hb]
      · exact (n1 (List.mem_map.mpr ⟨b, hb, by rw [← e, ha]⟩)).elim
    · rcases List.mem_cons.mp hb with hb | hb
      · exact (n1 (List.mem_map.mpr ⟨a, ha, by rw [e, hb]⟩)).elim
      · exact nd_inj n2 ha hb e
theorem tabs_hu {tf : List He.Defn} {K : Fg} {q : He.Defn} (nd : (tf.map fun q => (He.cT K q).2).Nodup) (h : q ∈ tf) : ∀ p ∈ tabsOf tf K, p.1 = (He.cT K q).2 → p.2 = (q.1 ++ ".<locals>.") ++ "<lambda>" := fun p hp e => by
  obtain ⟨r, hr, ep⟩ := List.mem_map.mp hp
  subst ep
  have : r = q := nd_inj nd hr h e
  rw [this]
end Lp

set_option Elab.async false
set_option linter.all false
set_option maxRecDepth 100000
set_option maxHeartbeats 4000000
/-! L15: a hook that looks at the statics too. Own work. -/
namespace Lp
open PySem PySem.Spec PyProof.Rows L2 LamX
/-- what is looked at: the globals, n steps far, and the statics -/
def seeY (n : Nat) (g : Addr → Option Obj) : List Addr := cStatics :: He.asD g n
abbrev fragY (n : Nat) (g : Addr → Option Obj) : Fg := He.frT g (seeY n g)
def obsY (n : Nat) (fa : List He.Fa) (fn : List He.DefD) (tf : List He.Defn) (ex : Fg → Bool) (g : Addr → Option Obj) : He.AlX :=
  (He.obsT fa fn [] (fragY n g), ex (fragY n g) && He.tabsB g tf (fragY n g))
theorem says_ofY {n : Nat} {fa : List He.Fa} {fn : List He.DefD} {tf : List He.Defn} {ex : Fg → Bool} {w : World} {h : Heap} (q : obsY n fa fn tf ex h.get? = He.valX fn [] w) : He.SaysX fa fn [] tf ex w h (fragY n h.get?) := by
  have both := ba2 (congrArg Prod.snd q)
  have each : ∀ p, p ∈ tf → PySem.W.codeHdIn (fragY n h.get?) (He.cT (fragY n h.get?) p).1 (He.cT (fragY n h.get?) p).2 = true ∧ ∃ o, h.get? (He.cT (fragY n h.get?) p).2 = some o ∧ He.emptyTab o = true := by
    intro p mem
    have two := ba2 (List.all_eq_true.mp both.2 p mem)
    refine ⟨two.1, ?_⟩
    have tab := two.2
    revert tab
    cases h.get? (He.cT (fragY n h.get?) p).2 with
    | none => intro z; cases z
    | some o => intro z; exact ⟨o, rfl, z⟩
  constructor
  · exact congrArg Prod.fst q
  · exact both.1
  · exact fun p mem => (each p mem).1
  · intro p mem
    obtain ⟨_, o, here, z⟩ := each p mem
    exact He.frT_none here z
  · intro p mem
    obtain ⟨_, o, here, z⟩ := each p mem
    rw [here, He.emptyTab_eq z]
def hookY (n : Nat) (fa : List He.Fa) (fn : List He.DefD) (tf : List He.Defn) (ex : Fg → Bool) : PySem.W.Hook where
  α := He.AlX
  obs := fun s => obsY n fa fn tf ex s.heap.get?
  val := fun w => He.valX fn [] w
  says := fun w h => ∃ K : Fg, K.In h ∧ He.SaysX fa fn [] tf ex w h K
  of := fun w s q => ⟨fragY n s.heap.get?, He.frT_in, says_ofY q⟩
  keeps := fun w h h' ⟨K, inH, c⟩ k => by
    refine ⟨K, PySem.W.Frag.In.keeps inH k, ?_⟩
    exact { t := c.t, more := c.more, hd := c.hd, out := c.out, empty := fun p mem => k _ _ (c.empty p mem) }
theorem hookY_obs {n : Nat} {fa : List He.Fa} {fn : List He.DefD} {tf : List He.Defn} {ex : Fg → Bool} {g : Addr → Option Obj} {s : Shared} (same : ∀ a, g a = s.heap.get? a) : obsY n fa fn tf ex g = (hookY n fa fn tf ex).obs s := by
  obtain rfl : g = s.heap.get? := funext same
  rfl
end Lp

set_option Elab.async false
set_option linter.all false
set_option maxRecDepth 100000
set_option maxHeartbeats 4000000
/-! L16: more ways of statements: what a call gives kept in a slot; what is told by a def that is handed a lambda; two new lists in a pair. Own work. -/
namespace Lp
open PySem PySem.Spec PyProof.Rows L2 LamX
section
variable {K : Fg} {T : Tbl} {E E' : XK} {X : XP} {S S' S0 J O O' : Ad} {H H1 H2 : Hp} {Γ Γ1 Γ' : List Ent} {σ σ' : L2.St}
variable {N N' : List Ent → Prop} {R : Rt → List Ent → Prop} {B C : List Ent → Prop} {ts tu : TS} {te ta tb : TE} {tt : TT} {tr : TA} {P : Dt → Prop} {A : List Dt → Prop} {ti : TI} {F : FS} {FJ : JS} {FO : OS}
theorem s_asgIf {g : TG} (h : ET K T E X tt Γ fun b => (b = true → SW K T E X (tAsg ta g) Γ N R B C) ∧ (b = false → SW K T E X (tAsg tb g) Γ N R B C)) : SW K T E X (tAsg (tIf tt ta tb) g) Γ N R B C := fun S0 J σ H r xo D n rt b c =>
  h S0 J σ H r xo.ex _ fun k H1 q r1 n1 => by
    have g1 := r.go n1
    cases k with
    | true =>
      show tAsg ta g D σ H1
      exact q.1 rfl S0 J σ H1 r1 (xo.nxs n1) D (fun Γ2 σ2 H2 a r2 g2 => n Γ2 σ2 H2 a r2 (g1.trans g2)) (fun rr v Γ2 σ2 H2 a r2 g2 z => rt rr v Γ2 σ2 H2 a r2 (g1.trans g2) (z.mono (Og.go g1)))
        (fun Γ2 σ2 H2 a r2 g2 => b Γ2 σ2 H2 a r2 (g1.trans g2)) (fun Γ2 σ2 H2 a r2 g2 => c Γ2 σ2 H2 a r2 (g1.trans g2))
    | false =>
      show tAsg tb g D σ H1
      exact q.2 rfl S0 J σ H1 r1 (xo.nxs n1) D (fun Γ2 σ2 H2 a r2 g2 => n Γ2 σ2 H2 a r2 (g1.trans g2)) (fun rr v Γ2 σ2 H2 a r2 g2 z => rt rr v Γ2 σ2 H2 a r2 (g1.trans g2) (z.mono (Og.go g1)))
        (fun Γ2 σ2 H2 a r2 g2 => b Γ2 σ2 H2 a r2 (g1.trans g2)) (fun Γ2 σ2 H2 a r2 g2 => c Γ2 σ2 H2 a r2 (g1.trans g2))
def isNon : Dt → Bool
  | .non => true
  | _ => false
/-- what a call gives, kept: data, or a new list -/
theorem s_asgC {i : Nat} (h : EA K T E X tr Γ fun ds => F ds (fun r => (∀ d, r = .val d → N (Γ.set i (.val d))) ∧ (∀ es, r = .new es → ∀ p, p ∉ owned Γ → N (Γ.set i (.own p es))) ∧ ∀ d es, r ≠ .pair d es) noX) :
    SW K T E X (tAsg (tCall (spD K T F) [] E' tr) (gName i)) Γ N R B C := fun S0 J σ H r xo D n rt b c =>
  h S0 J σ H r xo.ex _ fun vs ds H1 f r1 n1 rl => by
    rw [List.append_nil]
    refine ⟨Sx S0 Γ, ds, _, noX, rl, r1.live, r1.tb, f, fun v rr H2 ⟨q1, q2, q3⟩ n2 rv => ?_, .none⟩
    have n2J : Nx T J H1 H2 := n2.mono fun _ z => z.elim
    have r2 := r1.nx n2
    cases rr with
    | val d => exact n _ _ H2 (q1 d rfl) (r2.setV rv) ((r.go (n1.trans n2J)).trans .setV)
    | new es =>
      obtain ⟨p, xs, e, h1, h2, h3, h4⟩ := rv
      subst e
      exact n _ _ H2 (q2 es rfl p (r1.newNot h2)) (r2.newO (fun z => h1 (.inl z)) (r1.newNot h2) h3 h4 (r1.notNew h2 n2J)) (.newO (n1.trans n2J) (n1.dom _ h2))
    | pair d es => exact (q3 d es rfl).elim
/-- return x(lambda: f(..)) -/
theorem s_told {w : Str} {L : List HCl} {X' : XP} (h : ∀ E, EA K T E X' tr Γ fun ds => F ds (fun r => (∀ d, r = .val d → R (.val (.tup [.str w, d])) Γ) ∧ (∀ es, r = .new es → R (.pair (.str w) es) Γ) ∧ ∀ d es, r ≠ .pair d es) X')
    (hx : ∀ Cl fs, X' Cl fs → HX K (fun d => R (.val d) Γ) L Cl fs) (ow : owned Γ = []) : SW K T E X (tRet (tLam T (TTh K w L) fun E => tCall (spD K T F) [] E tr)) Γ N R B C := fun S0 J σ H r xo D n rt b c => by
  refine ⟨r.tb, fun H1 e tb => ?_⟩
  have n1 : ∀ {S : Ad}, Nx T S H H1 := fun {S} => .of_ext e tb
  have r1 := r.nx n1
  have sx0 : Sx S0 Γ = S0 := by
    funext a
    unfold Sx
    rw [ow]
    simp
  have fin : ∀ {H2 : Hp} {v : V} {d : Dt} {nm : Str}, Rel K T S0 J Γ σ H2 → Nx T J H H2 → Rep K (Sx S0 Γ) H2 v d → R (.val (.tup [.str nm, d])) Γ → ∀ p, H2 p = none → D.rt (.ref p) (upd H2 p (.tup [.str nm, v])) := fun {H2 v d nm} r2 n2 rv pp p hp => by
    have n3 : ∀ {S : Ad}, Nx T S H2 (upd H2 p (.tup [.str nm, v])) := fun {S} => .new hp noT_tup
    have rp := new_pair (w := nm) hp (r2.fresh (.of hp)) rv
    rw [sx0] at rp
    exact rt (.val (.tup [.str nm, d])) _ Γ σ _ pp (r2.nx n3) (r.go (n2.trans n3)) rp
  refine h (hCh K D.rt L) S0 J σ H1 r1 (fun Cl fs xs dx H2 x' n2 fd ed rf jz => ?_) _ fun vs ds H2 f r2 n2 rl => ?_
  · have r2 : Rel K T S0 J Γ σ H2 := r1.nxJJ n2 jz
    have n12 : Nx T J H H2 := n1.trans n2
    have go : ∀ L : List HCl, HX K (fun d => R (.val d) Γ) L Cl fs → hCh K D.rt L (.ref Cl) (some dx) H2 := fun L => by
      induction L with
      | nil => exact fun z => z.elim
      | cons c L ih =>
        obtain ⟨C', nm, fo⟩ := c
        intro hz
        obtain ⟨b, hb, hy, hn⟩ := hz
        refine ⟨b, hb, fun e => ?_, fun e => ih (hn e)⟩
        have hy := hy e
        cases fo with
        | some f =>
          obtain ⟨ec, d, hl, pp⟩ := hy
          obtain ⟨v, hv, rv⟩ := rf.lookup hl
          exact ⟨by rw [ec], dx, xs, v, rfl, ed, hv, fin r2 n12 (by rw [sx0]; exact rv) pp⟩
        | none => exact fin r2 n12 .non hy
    exact go L (hx Cl fs x')
  · rw [List.append_nil]
    refine ⟨Sx S0 Γ, ds, _, X', rl, r2.live, r2.tb, f, fun v rr H3 ⟨q1, q2, q3⟩ n3 rv => ⟨pair_size, ?_⟩, ?_⟩
    · have n3J : Nx T J H2 H3 := n3.mono fun _ z => z.elim
      have r3 := r2.nx n3
      have n13 := (n1.trans n2).trans n3J
      cases rr with
      | val d => exact fin r3 n13 rv (q1 d rfl)
      | new es =>
        obtain ⟨l, xs, e, h1, h2, h3, h4⟩ := rv
        subst e
        intro p hp
        have n4 : ∀ {S : Ad}, Nx T S H3 (upd H3 p (.tup [.str w, .ref l])) := fun {S} => .new hp noT_tup
        have hne : p ≠ l := fun z => by rw [z, h3] at hp; cases hp
        refine rt (.pair (.str w) es) _ Γ σ _ (q2 es rfl) (r3.nx n4) (r.go (n13.trans n4)) ⟨p, .str w, l, xs, rfl, ?_, upd_same, hne, ?_, .inr ((n1.trans n2).dom _ h2), by rw [upd_ne (Ne.symm hne)]; exact h3, .str w, ?_⟩
        · rw [← sx0]; exact r3.fresh (.of hp)
        · rw [← sx0]; exact h1
        · rw [← sx0]; exact h4.nx n4
      | pair d es => exact (q3 d es rfl).elim
    · intro Cl fs xs dx H3 x' n3 fd ed rf _
      have n3J : Nx T J H2 H3 := n3.mono fun _ z => z.elim
      have r3 : Rel K T S0 J Γ σ H3 := r2.nx n3
      have n13 : Nx T J H H3 := (n1.trans n2).trans n3J
      have go : ∀ L : List HCl, HX K (fun d => R (.val d) Γ) L Cl fs → hCh K D.rt L (.ref Cl) (some dx) H3 := fun L => by
        induction L with
        | nil => exact fun z => z.elim
        | cons c L ih =>
          obtain ⟨C', nm, fo⟩ := c
          intro hz
          obtain ⟨b, hb, hy, hn⟩ := hz
          refine ⟨b, hb, fun e => ?_, fun e => ih (hn e)⟩
          have hy := hy e
          cases fo with
          | some f =>
            obtain ⟨ec, d, hl, pp⟩ := hy
            obtain ⟨v, hv, rv⟩ := rf.lookup hl
            exact ⟨by rw [ec], dx, xs, v, rfl, ed, hv, fin r3 n13 rv pp⟩
          | none => exact fin r3 n13 .non hy
      exact go L (hx Cl fs x')
theorem x_isNB (ha : EB K T E X ta Γ fun x => P (.bl (isNon x))) : EX K T E X (tOp uIsN ta (tC .non)) Γ P := fun S0 J σ H r xo Q q =>
  ha S0 J σ H r xo _ fun v x H2 p r2 n2 rv => ⟨rfl, q _ _ H2 p r2 n2 (by
    rcases rv with rv | ⟨a, xs, ds, rfl, rfl, _⟩
    · cases rv <;> exact .bl _
    · exact .bl _)⟩
theorem x_notNB (ha : EB K T E X ta Γ fun x => P (.bl (!isNon x))) : EX K T E X (tOp uNotN ta (tC .non)) Γ P := fun S0 J σ H r xo Q q =>
  ha S0 J σ H r xo _ fun v x H2 p r2 n2 rv => ⟨rfl, q _ _ H2 p r2 n2 (by
    rcases rv with rv | ⟨a, xs, ds, rfl, rfl, _⟩
    · cases rv <;> exact .bl _
    · exact .bl _)⟩
/-- x, y = [..], [..] by way of a pair -/
theorem s_tupO {i j : Nat} (hij : i ≠ j) (h : EL K T E X ta Γ fun ds => EL K T E X tb Γ fun es => ∀ p q, p ∉ owned Γ → q ∉ owned Γ → p ≠ q → N ((Γ.set i (.own p ds)).set j (.own q es))) :
    SW K T E X (tAsg (tTup (tCons ta (tCons tb tNil))) (gTup K 2 (gCons (gName i) (gCons (gName j) gNil)))) Γ N R B C := fun S0 J σ H r xo D n rt b c => by
  have key := s_parO (i := i) (j := j) (N := N) (R := R) (B := B) (C := C) h
  -- the pair is laid besides
  refine h S0 J σ H r xo.ex _ fun p xs ds H2 h2 r2 n2 f2 e2 l2 => h2 (Rj S0 p) J σ H2 (r.avoid r2 f2 (fun z => z _ e2 noT_lst) n2) (xo.ex.nx n2).avoid _ fun q ys es H3 a r3 n3 f3 e3 l3 => ⟨pair_size, fun t ht => ?_⟩
  have n4 : ∀ {S : Ad}, Nx T S H3 (upd H3 t (.tup [.ref p, .ref q])) := fun {S} => .new ht noT_tup
  refine ⟨t, [.ref p, .ref q], rfl, .inl (.inl upd_same), rfl, .ref p, [.ref q], rfl, .ref q, [], rfl, rfl, ?_⟩
  have hqp : p ≠ q := fun z => by rw [z] at e2; exact f3 _ e2 noT_lst
  have s1 : S0 p → False := fun z => r.wf p z f2
  have n34 : Nx T J H2 (upd H3 t (.tup [.ref p, .ref q])) := n3.trans n4
  have e2' : upd H3 t (.tup [.ref p, .ref q]) p = some (.lst xs) := n34.le _ _ e2 noT_lst fun z => s1 (r.js _ z)
  have e3' : upd H3 t (.tup [.ref p, .ref q]) q = some (.lst ys) := (n4 (S := Non)).le _ _ e3 noT_lst id
  have l2' : RepL K (Rj (Sx S0 Γ) p) (upd H3 t (.tup [.ref p, .ref q])) xs ds := l2.nx (n34.mono fun b z => .inl (.inl (r.js b z)))
  have r3' := r3.nx n4
  have r2' := r2.newO (i := i) s1 (r.newNot f2) e2 l2 (r.notNew f2 n2)
  have r4 := (r3'.less (fun a z => .inl z) r.js).newO (i := i) s1 (r.newNot f2) e2' l2' (r.notNew f2 (n2.trans n34))
  have hq1 : q ∉ owned (Γ.set i (.own p ds)) := r2'.newNot f3
  have r5 := r4.newO (i := j) (fun z => r2.wf q z f3) hq1 e3' ((l3.nx n4).sub (.of fun b z => by
    rcases z with (z | z) | z
    · exact .inl (.inl (.inl z))
    · rcases owned_set Γ b z with q | q
      · exact .inl (.inr q)
      · exact .inl (.inl (.inr (List.mem_singleton.mp q)))
    · exact .inr z)) (r2'.notNew f3 n34)
  exact n _ _ _ (a p q (r.newNot f2) (r2.newNot f3) hqp) r5 ((Go.newO n2 f2).trans (.newO n34 f3))
/-- a list of the def's own is data while an expression is evaluated that gives no list -/
def scalD : Dt → Bool
  | .non => true
  | .bl _ => true
  | .int _ => true
  | .str _ => true
  | _ => false
theorem Rep.scal {v : V} {d : Dt} (h : scalD d = true) (r : Rep K S H v d) : Rep K S' H v d := by
  cases r <;> first | exact .non | exact .bl _ | exact .int _ | exact .str _ | cases h
theorem x_lend {i : Nat} {p : Addr} {ds : List Dt} (hp : Γ[i]? = some (.own p ds)) (h : EX K T E X te (Γ.set i (.val (.lst ds))) fun d => scalD d = true ∧ P d) : EX K T E X te Γ P := fun S0 J σ H r xo Q q =>
  h S0 J σ H (r.forget hp) xo Q fun v d H2 ⟨sc, pp⟩ r2 n2 rv => q v d H2 pp (r.nxJJ n2 r2.jr) n2 (rv.scal sc)
theorem t_lend {i : Nat} {p : Addr} {ds : List Dt} {G : Bool → Prop} (hp : Γ[i]? = some (.own p ds)) (h : ET K T E X tt (Γ.set i (.val (.lst ds))) G) : ET K T E X tt Γ G := fun S0 J σ H r xo Q q =>
  h S0 J σ H (r.forget hp) xo Q fun b H2 pp r2 n2 => q b H2 pp (r.nxJJ n2 r2.jr) n2
theorem x_dnew (p : P (.dct [])) : EX K T E X tDNewK Γ P := fun S0 J σ H r xo Q q => fun a ha => by
  have n3 : ∀ {S : Ad}, Nx T S H (upd H a (.dK [])) := fun {S} => .new ha noT_dK
  exact q _ _ _ p (r.nx n3) n3 (.dct (r.fresh (.of ha)) upd_same .nil)
/-- a new list is given out -/
theorem s_retL (h : EL K T E X te Γ fun ds => R (.new ds) Γ) : SW K T E X (tRet te) Γ N R B C := fun S0 J σ H r xo D n rt b c =>
  h S0 J σ H r xo.ex _ fun p xs ds H2 a r2 n2 h1 h2 rl => rt (.new ds) _ Γ σ H2 a r2 (r.go n2) ⟨p, xs, rfl, fun z => r.wf p z h1, .inr h1, h2, rl.sub (.of fun b z => by
    rcases z with z | z
    · exact .inl (.inl z)
    · exact .inr z)⟩
end
end Lp

set_option Elab.async false
set_option linter.all false
set_option maxRecDepth 100000
set_option maxHeartbeats 4000000
/-! L17: a list lent to a call that gives a list of plain values; a new list becomes the jar. Own work. -/
namespace Lp
open PySem PySem.Spec PyProof.Rows L2 LamX
section
variable {K : Fg} {T : Tbl} {E E' : XK} {X : XP} {S S' S0 J O O' : Ad} {H H1 H2 : Hp} {Γ Γ1 Γ' : List Ent} {σ σ' : L2.St}
variable {N N' : List Ent → Prop} {R : Rt → List Ent → Prop} {B C : List Ent → Prop} {ts tu : TS} {te ta tb : TE} {tt : TT} {tr : TA} {P : Dt → Prop} {A : List Dt → Prop} {ti : TI} {F : FS} {FJ : JS} {FO : OS}
theorem RepL.scal : ∀ {vs : List V} {ds : List Dt}, (∀ d ∈ ds, scalD d = true) → RepL K S H vs ds → RepL K S' H vs ds
  | _, _, _, .nil => .nil
  | _, _, h, .cons r t => .cons (r.scal (h _ (by simp))) (RepL.scal (fun d hd => h d (by simp [hd])) t)
theorem l_lend {i : Nat} {p : Addr} {ds : List Dt} (hp : Γ[i]? = some (.own p ds)) (h : EL K T E X te (Γ.set i (.val (.lst ds))) fun es => (∀ d ∈ es, scalD d = true) ∧ A es) : EL K T E X te Γ A := fun S0 J σ H r xo Q q =>
  h S0 J σ H (r.forget hp) xo Q fun l xs es H2 ⟨sc, pp⟩ r2 n2 f e rl => q l xs es H2 pp (r.nxJJ n2 r2.jr) n2 f e (rl.scal sc)
theorem owned_sub_nil {i : Nat} {e : Ent} (h : owned Γ = []) (he : ownA e = []) : owned (Γ.set i e) = [] := by
  apply List.eq_nil_iff_forall_not_mem.mpr
  intro a ha
  rcases owned_set Γ a ha with q | q
  · rw [h] at q; cases q
  · rw [he] at q; cases q
theorem s_jar {i : Nat} (ow : owned Γ = []) (h : EA K T E X tr Γ fun ds => F ds (fun r => ∃ a b c, r = .new (intsD [a, b, c]) ∧ 0 ≤ b ∧ b < 2147483647) noX)
    (q : ∀ p, SW K T E X tu (Γ.set i (.jar p)) (fun _ => False) (fun r _ => ∃ v, r = .val (.bl v) ∧ R r Γ) (fun _ => False) (fun _ => False)) : SW K T E X (tSeq (tAsg (tCall (spD K T F) [] E' tr) (gName i)) tu) Γ N R B C := fun S0 J σ H r xo D n rt b c => by
  refine h S0 J σ H r xo.ex _ fun vs ds H1 f r1 n1 rl => ?_
  rw [List.append_nil]
  refine ⟨Sx S0 Γ, ds, _, noX, rl, r1.live, r1.tb, f, fun v rr H2 ⟨a, b, c, e, hb1, hb2⟩ n2 rv => ?_, .none⟩
  subst e
  obtain ⟨p, xs, e, h1, h2, h3, h4⟩ := rv
  subst e
  rw [RepL.ints h4] at h3
  show tu D (σ.set i (some (.ref p))) H2
  have n2J : Nx T J H1 H2 := n2.mono fun _ z => z.elim
  have r2 := r1.nx n2
  have jo : JarOk H2 p := ⟨a, b, c, h3, hb1, hb2⟩
  have ow' : owned (Γ.set i (.jar p)) = [] := owned_sub_nil ow rfl
  have hpn : Fre H p := n1.dom _ h2
  have sxn : ∀ (S : Ad) (Γ0 : List Ent), owned Γ0 = [] → Sx S Γ0 = S := fun S Γ0 h0 => by
    funext a
    unfold Sx
    rw [h0]
    simp
  have rj : Rel K T (Rj S0 p) (Rj J p) (Γ.set i (.jar p)) (σ.set i (some (.ref p))) H2 := by
    refine ⟨fun a z => z.imp (r.js a) id, fun a z => ?_, fun a z => ?_, r2.tb, by rw [ow']; exact List.nodup_nil, by rw [ow']; exact fun _ z => (nomatch z), by rw [List.length_set, List.length_set]; exact r2.len, fun k o e g1 g2 => ?_⟩
    · rcases z with z | z
      · exact r2.jr a z
      · rw [z]; exact jo
    · rcases z with z | z
      · exact r2.wf a z
      · rw [z]; exact fun fr => fr _ h3 noT_lst
    · rw [sxn _ _ ow']
      by_cases hk : k = i
      · subst hk
        have hl := (List.getElem?_eq_some_iff.mp g2).1
        rw [List.length_set] at hl
        have hs : k < σ.length := by rw [r.len]; exact hl
        rw [List.getElem?_set_self hl] at g2
        rw [List.getElem?_set_self hs] at g1
        cases g1; cases g2
        exact ⟨rfl, .inr rfl⟩
      · rw [List.getElem?_set_ne (Ne.symm hk)] at g1 g2
        have z := r1.notNew h2 n2J k o e g1 g2
        rw [sxn _ _ ow] at z
        cases e with
        | emp => trivial
        | val d => exact z
        | own p ds => exact z
        | owk p ds => exact z
        | owo p C dx ds => exact z
        | jar j => exact ⟨z.1, .inl z.2⟩
  have back : ∀ {H3 : Hp}, Nx T (Rj J p) H2 H3 → Nx T J H H3 := fun {H3} n3 => by
    have n12 := n1.trans n2J
    refine ⟨fun b o e no ns => ?_, fun b z => n12.dom b (n3.dom b z), fun t => n3.tab (n12.tab t)⟩
    refine n3.le b o (n12.le b o e no ns) no fun z => ?_
    rcases z with z | z
    · exact ns z
    · rw [z] at e; exact hpn o e no
  refine q p (Rj S0 p) (Rj J p) _ H2 rj (fun C fs ys dx H3 hX n3 fd ed rf jz => ?_) D (fun _ _ _ z => z.elim) (fun rr v Γ' σ' H' ⟨w, e, hr⟩ rl' g rv => ?_) (fun _ _ _ z => z.elim) (fun _ _ _ z => z.elim)
  · rw [sxn _ _ ow'] at n3
    have n13 := back n3
    exact xo C fs ys dx H3 hX (n13.mono fun _ z => .inl z) ((n1.trans n2J).dom _ fd) ed (rf.sub (.of Rj.sub)) fun a ha => jz a (.inl ha)
  · have n3 : Nx T (Rj J p) H2 H' := by
      have := g.nx
      rw [sxn _ _ ow'] at this
      exact this
    have n13 := back n3
    subst e
    cases (show Rep K _ H' v (.bl w) from rv)
    exact rt (.val (.bl w)) _ Γ σ H' hr (r.nxJJ n13 fun a ha => rl'.jr a (.inl ha)) (r.go n13) (.bl w)
end
end Lp

set_option Elab.async false
set_option linter.all false
set_option maxRecDepth 100000
set_option maxHeartbeats 4000000
/-! L18: own objects: fields read and laid, makers, methods, kinds; facts of the text kept out of the readings. Own work. -/
namespace Lp
open PySem PySem.Spec PyProof.Rows L2 LamX
/-! ### a reading that takes weaker wishes -/
def tUp (ta : TE) : TE := fun σ H Q => ∃ R : VK, ta σ H R ∧ ∀ x H1, R x H1 → Q x H1
section
variable {X : Cx} {e o value : Expr} {ta tv : TE} {f : Str} {pos pos' : Pos}
theorem pe_up (h : PE X e ta) : PE X e (tUp ta) := ⟨fun pins s σ H Q I ⟨R, hr, hq⟩ => thn (h.run pins s σ H R I hr) fun u s1 ⟨x, H1, I1, rx, r⟩ => ⟨x, H1, I1, rx, hq x H1 r⟩⟩
/-- e.f, where e is an instance of one of the classes Cs -/
def oFld (Cs : List Addr) (f : Str) (ta : TE) : TE := fun σ H Q => ta σ H fun x H1 => ∃ a C dx fs v, x = .ref a ∧ H1 a = some (.ins C dx fs) ∧ C ∈ Cs ∧ fs.lookup f = some v ∧ Q v H1
theorem pe_oFld {Cs : List Addr} (hc : ∀ C ∈ Cs, Cls X.K C ∧ NoAttr X.K C f) (he : PE X e ta) (hb : attributeBase e f X.env (eval e X.env) = eval e X.env) : PE X (.Attribute e f pos) (oFld Cs f ta) :=
  ⟨fun pins s σ H Q I h => (pe_fld (pe_up he) hb).run pins s σ H Q I ⟨_, h, fun x H1 ⟨a, C, dx, fs, v, ex, ea, hC, l, q⟩ => ⟨a, C, dx, fs, v, ex, ea, (hc C hC).1, (hc C hC).2, l, q⟩⟩⟩
/-- o.f = e -/
def oSet (C : Addr) (f : Str) (ta tv : TE) : TS := fun D σ H => tv σ H fun y H1 => ta σ H1 fun x H2 => ∃ a dx fs, x = .ref a ∧ H2 a = some (.ins C dx fs) ∧ fs.length < 1000 ∧ D.nx σ (upd H2 a (.ins C dx (putF f y fs)))
theorem ps_oSet {C : Addr} (hc : Cls X.K C ∧ NoAttr X.K C f) (ha : PE X o ta) (hv : PE X value tv) (hs : swapsWith value (some (.Attribute o f pos')) pos.line X.env = pure false) : PS X (.Assign [.Attribute o f pos'] value pos) (oSet C f ta tv) :=
  ⟨fun pins s σ H D I h => (ps_fld (pe_up ha) (pe_up hv) hs).run pins s σ H D I ⟨_, h, fun y H1 h1 => ⟨_, h1, fun x H2 ⟨a, dx, fs, ex, ea, l, q⟩ => ⟨a, C, dx, fs, ex, ea, hc.1, hc.2, l, q⟩⟩⟩⟩
end
/-! ### kinds -/
def tyNames : List String := ["NoneType", "bool", "int", "str", "tuple", "list", "dict"]
/-- what isinstance asks of the text -/
structure IsF (K : Fg) (Cs : List Addr) : Prop where
  cl : ∀ C ∈ Cs, Cls K C
  ha : ∀ C ∈ Cs, PySem.W.findIn K (.ref C) "__class__" = some (some (.builtin "object.__class__"))
  hn : PySem.W.specialIn K (.builtin "object.__class__") "__get__" = some (some (.builtin "getset_descriptor.__get__"))
  tk : PySem.W.takesIn K (.builtin "object.__class__") = some true
  hm : ∀ C ∈ Cs, PySem.W.mroIn K C (.type "object") = some true
  k1 : ∀ C ∈ Cs, ∀ c ∈ tyNames, PySem.W.kitOne K (.ref C) (.type c) = some false
  k2 : ∀ D ∈ Cs, ∀ n ∈ tyNames, PySem.W.kitOne K (.type n) (.ref D) = some false
  k3 : ∀ C ∈ Cs, ∀ D ∈ Cs, PySem.W.kitOne K (.ref C) (.ref D) = some (decide (C = D))
def clsB (K : Fg) (C : Addr) : Bool := PySem.W.plainGet K C Str.empty && (PySem.W.hasDictIn K C && (PySem.W.plainOver K C && decide (PySem.W.findIn K (.ref C) "__setattr__" = some (some (.builtin "object.__setattr__")))))
theorem clsB_ok {K : Fg} {C : Addr} (h : clsB K C = true) : Cls K C := by
  obtain ⟨h1, h⟩ := ba2 h
  obtain ⟨h2, h⟩ := ba2 h
  obtain ⟨h3, h4⟩ := ba2 h
  exact ⟨h1, h2, h3, of_decide_eq_true h4⟩
def isFB (K : Fg) (Cs : List Addr) : Bool := (Cs.all fun C => clsB K C && (decide (PySem.W.findIn K (.ref C) "__class__" = some (some (.builtin "object.__class__"))) && (decide (PySem.W.mroIn K C (.type "object") = some true) &&
    ((tyNames.all fun c => decide (PySem.W.kitOne K (.ref C) (.type c) = some false) && decide (PySem.W.kitOne K (.type c) (.ref C) = some false)) && Cs.all fun D => decide (PySem.W.kitOne K (.ref C) (.ref D) = some (decide (C = D))))))) &&
  (decide (PySem.W.specialIn K (.builtin "object.__class__") "__get__" = some (some (.builtin "getset_descriptor.__get__"))) && decide (PySem.W.takesIn K (.builtin "object.__class__") = some true))
theorem isFB_ok {K : Fg} {Cs : List Addr} (h : isFB K Cs = true) : IsF K Cs := by
  obtain ⟨h1, h⟩ := ba2 h
  obtain ⟨h2, h3⟩ := ba2 h
  have h1 := List.all_eq_true.mp h1
  have p : ∀ C ∈ Cs, clsB K C = true ∧ PySem.W.findIn K (.ref C) "__class__" = some (some (.builtin "object.__class__")) ∧ PySem.W.mroIn K C (.type "object") = some true ∧
      (∀ c ∈ tyNames, PySem.W.kitOne K (.ref C) (.type c) = some false ∧ PySem.W.kitOne K (.type c) (.ref C) = some false) ∧ ∀ D ∈ Cs, PySem.W.kitOne K (.ref C) (.ref D) = some (decide (C = D)) := fun C hC => by
    have z := h1 C hC
    obtain ⟨z1, z⟩ := ba2 z
    obtain ⟨z2, z⟩ := ba2 z
    obtain ⟨z3, z⟩ := ba2 z
    obtain ⟨z4, z5⟩ := ba2 z
    refine ⟨z1, of_decide_eq_true z2, of_decide_eq_true z3, fun c hc => ?_, fun D hD => of_decide_eq_true (List.all_eq_true.mp z5 D hD)⟩
    obtain ⟨y1, y2⟩ := ba2 (List.all_eq_true.mp z4 c hc)
    exact ⟨of_decide_eq_true y1, of_decide_eq_true y2⟩
  exact ⟨fun C hC => clsB_ok (p C hC).1, fun C hC => (p C hC).2.1, of_decide_eq_true h2, of_decide_eq_true h3, fun C hC => (p C hC).2.2.1, fun C hC c hc => ((p C hC).2.2.2.1 c hc).1, fun C hC c hc => ((p C hC).2.2.2.1 c hc).2, fun C hC => (p C hC).2.2.2.2⟩
/-- isinstance(x, c), c a built-in type or one of Cs, x of a built-in type or an instance of one of Cs -/
def rIsiU (K : Fg) (Cs : List Addr) : List V → Hp → VK → Prop := fun xs H Q => rIsi K xs H Q ∨ ((∃ a C dx fs c, xs = [.ref a, .ty c] ∧ H a = some (.ins C dx fs) ∧ C ∈ Cs ∧ c ∈ tyNames ∧ Q (.bl false) H) ∨
  ((∃ x n D, xs = [x, .ref D] ∧ D ∈ Cs ∧ TyX K H x (.type n) ∧ n ∈ tyNames ∧ Q (.bl false) H) ∨ ∃ a C dx fs D, xs = [.ref a, .ref D] ∧ H a = some (.ins C dx fs) ∧ C ∈ Cs ∧ D ∈ Cs ∧ Q (.bl (decide (C = D))) H))
theorem call_isiU {X : Cx} {Cs : List Addr} (F : IsF X.K Cs) : CallR X (.builtin "isinstance") (rIsiU X.K Cs) := by
  intro pins s σ H xs us Q I r h
  refine call_isi pins s σ H xs us Q I r ?_
  have ins : ∀ {a C dx : Addr} {fs : List (Str × V)}, C ∈ Cs → H a = some (.ins C dx fs) → TyX X.K H (.ref a) (.ref C) := fun {a C dx fs} hC e => .base (.ins e (F.cl C hC) (F.ha C hC) F.hn F.tk (F.hm C hC))
  rcases h with h | ⟨a, C, dx, fs, c, ex, e, hC, hc, q⟩ | ⟨x, n, D, ex, hD, ty, hn, q⟩ | ⟨a, C, dx, fs, D, ex, e, hC, hD, q⟩
  · exact h
  · exact ⟨.ref a, .ty c, .ref C, .type c, false, ex, .ty c, ins hC e, F.k1 C hC c hc, q⟩
  · exact ⟨x, .ref D, .type n, .ref D, false, ex, .own D, ty, F.k2 D hD n hn, q⟩
  · exact ⟨.ref a, .ref D, .ref C, .ref D, _, ex, .own D, ins hC e, F.k3 C hC D hD, q⟩
/-- isinstance of data -/
def isB (Cs : List Addr) (d : Dt) (c : String) : Option Bool := match d with
  | .obj C _ => if C ∈ Cs ∧ c ∈ tyNames then some false else none
  | d => (tyD d).bind fun n => kitB n c
def isO (Cs : List Addr) (d : Dt) (D : Addr) : Option Bool := if D ∈ Cs then (match d with
  | .obj C _ => if C ∈ Cs then some (decide (C = D)) else none
  | _ => some false) else none
theorem tyD_in : ∀ {d : Dt} {n : String}, tyD d = some n → n ∈ tyNames
  | .non, _, e => by cases e; decide
  | .bl _, _, e => by cases e; decide
  | .int _, _, e => by cases e; decide
  | .str _, _, e => by cases e; decide
  | .tup _, _, e => by cases e; decide
  | .lst _, _, e => by cases e; decide
  | .dct _, _, e => by cases e; decide
  | .obj _ _, _, e => by cases e
section
variable {K : Fg} {T : Tbl} {E E' : XK} {X : XP} {S S' S0 J O O' : Ad} {H H1 H2 : Hp} {Γ Γ1 Γ' : List Ent} {σ σ' : L2.St}
variable {N N' : List Ent → Prop} {R : Rt → List Ent → Prop} {B C : List Ent → Prop} {ts tu : TS} {te ta tb : TE} {tt : TT} {tr : TA} {P : Dt → Prop} {A : List Dt → Prop} {ti : TI} {F : FS} {FJ : JS} {FO : OS}
theorem RepB.obj {v : V} {C : Addr} {l : List (Str × Dt)} (h : RepB K J S H v (.obj C l)) : ∃ a dx xs, v = .ref a ∧ ¬ S a ∧ H a = some (.ins C dx xs) ∧ RepF K S H xs l := by
  rcases h with h | ⟨a, xs, ds, rfl, e, _⟩
  · cases h with
    | obj h1 h2 h3 => exact ⟨_, _, _, rfl, h1, h2, h3⟩
  · cases e
theorem x_isiU {Cs : List Addr} {c : String} (ha : EB K T E X ta Γ fun x => ∃ b, isB Cs x c = some b ∧ P (.bl b)) : EX K T E X (tCB (rIsiU K Cs) (tCons ta (tCons (tC (.ty c)) tNil))) Γ P := fun S0 J σ H rl xo Q q =>
  ha S0 J σ H rl xo _ fun v x H2 ⟨b, h1, p⟩ r2 n2 rv => by
    have fin := q _ _ H2 p r2 n2 (.bl b)
    have base : ∀ n, tyD x = some n → kitB n c = some b → rIsiU K Cs [v, .ty c] H2 Q := fun n e1 e2 => .inl ⟨v, .ty c, .type n, .type c, b, rfl, .ty c, rv.ty e1, kit_ty e2, fin⟩
    cases x with
    | obj C l =>
      obtain ⟨a, dx, xs, rfl, _, e, _⟩ := rv.obj
      unfold isB at h1
      dsimp only at h1
      split at h1
      · rename_i hz
        cases h1
        exact .inr (.inl ⟨a, C, dx, xs, c, rfl, e, hz.1, hz.2, fin⟩)
      · cases h1
    | _ =>
      unfold isB at h1
      obtain ⟨n, e1, e2⟩ := Option.bind_eq_some_iff.mp h1
      exact base n e1 e2
theorem x_isiO {Cs : List Addr} {D : Addr} (ha : EB K T E X ta Γ fun x => ∃ b, isO Cs x D = some b ∧ P (.bl b)) : EX K T E X (tCB (rIsiU K Cs) (tCons ta (tCons (tC (.ref D)) tNil))) Γ P := fun S0 J σ H rl xo Q q =>
  ha S0 J σ H rl xo _ fun v x H2 ⟨b, h1, p⟩ r2 n2 rv => by
    have fin := q _ _ H2 p r2 n2 (.bl b)
    unfold isO at h1
    split at h1
    case isFalse => cases h1
    case isTrue hD =>
      have base : ∀ n, tyD x = some n → b = false → rIsiU K Cs [v, .ref D] H2 Q := fun n e1 e2 => by
        subst e2
        exact .inr (.inr (.inl ⟨v, n, D, rfl, hD, rv.ty e1, tyD_in e1, fin⟩))
      cases x with
      | obj C l =>
        obtain ⟨a, dx, xs, rfl, _, e, _⟩ := rv.obj
        dsimp only at h1
        split at h1
        · rename_i hz
          cases h1
          exact .inr (.inr (.inr ⟨a, C, dx, xs, D, rfl, e, hz, hD, fin⟩))
        · cases h1
      | _ => cases h1; exact base _ rfl rfl
/-! ### fields -/
theorem RepF.lookup_none {f : Str} : ∀ {xs : List (Str × V)} {fs : List (Str × Dt)}, RepF K S H xs fs → fs.lookup f = none → xs.lookup f = none
  | _, _, .nil, _ => rfl
  | _, _, @RepF.cons _ _ _ k v d' xs fs r t, h => by
    rw [List.lookup_cons] at h ⊢
    cases hk : f == k with
    | true => rw [hk] at h; cases h
    | false => rw [hk] at h; exact RepF.lookup_none t h
theorem RepF.len : ∀ {xs : List (Str × V)} {fs : List (Str × Dt)}, RepF K S H xs fs → xs.length = fs.length
  | _, _, .nil => rfl
  | _, _, .cons _ r => by rw [List.length_cons, List.length_cons, RepF.len r]
theorem x_fld {Cs : List Addr} {f : Str} (ha : EX K T E X ta Γ fun x => ∃ C fs d, x = .obj C fs ∧ C ∈ Cs ∧ fs.lookup f = some d ∧ P d) : EX K T E X (oFld Cs f ta) Γ P := fun S0 J σ H rl xo Q q =>
  ha S0 J σ H rl xo _ fun v x H2 ⟨C, fs, d, ex, hC, l, p⟩ r2 n2 rv => by
    subst ex
    cases rv with
    | obj h1 h2 h3 =>
      obtain ⟨w, hw, rw'⟩ := h3.lookup l
      exact ⟨_, _, _, _, w, rfl, h2, hC, hw, q w d H2 p r2 n2 rw'⟩
/-- .. of the object that is being made -/
theorem x_fldO {Cs : List Addr} {f : Str} {i : Nat} {p C dx : Addr} {l : List (Str × Dt)} {d : Dt} (h : Γ[i]? = some (.owo p C dx l)) (hC : C ∈ Cs) (hl : l.lookup f = some d) (pp : P d) : EX K T E X (oFld Cs f (tVar i)) Γ P := fun S0 J σ H r xo Q q => by
  obtain ⟨e, xs, e2, rf⟩ := r.getOb h
  obtain ⟨w, hw, rw'⟩ := rf.lookup hl
  exact ⟨_, e, p, C, dx, xs, w, rfl, e2, hC, hw, q w d H pp r .refl rw'⟩
theorem nd_one {p : Addr} {e e' : Ent} : ∀ {Γ : List Ent} {i k : Nat}, (owned Γ).Nodup → Γ[i]? = some e → p ∈ ownA e → Γ[k]? = some e' → p ∈ ownA e' → i ≠ k → False := fun {Γ i k} nd h he h2 he' hne => Rel.chO.nd_any nd h he h2 he' hne
/-- what slot i has of its own is another thing now -/
theorem Rel.chG {i : Nat} {p : Addr} {e0 e1 : Ent} {u o : HO} (r : Rel K T S0 J Γ σ H) (h : Γ[i]? = some e0) (he0 : ownA e0 = [p]) (he1 : ownA e1 = [p]) (hp : H p = some u) (pu : Pln u) (po : Pln o)
    (hat : ∀ ov, σ[i]? = some ov → At K J (Sx S0 Γ) (upd H p o) ov e1) : Rel K T S0 J (Γ.set i e1) σ (upd H p o) := by
  have hm : p ∈ owned Γ := List.mem_flatMap.mpr ⟨_, List.mem_of_getElem? h, by rw [he0]; exact List.mem_singleton.mpr rfl⟩
  have ow : owned (Γ.set i e1) = owned Γ := owned_same h (by rw [he0, he1])
  have n : Nx T (Sx S0 Γ) H (upd H p o) := .put (.inr hm) hp pu po
  have hns : ¬ S0 p := r.os p hm
  have nS : Nx T (fun a => a = p) H (upd H p o) := .put rfl hp pu po
  have sx : Sx S0 (Γ.set i e1) = Sx S0 Γ := by unfold Sx; rw [ow]
  refine ⟨r.js, fun a ha => (r.jr a ha).nx nS fun z => hns (by rw [← z]; exact r.js _ ha), fun a ha z => r.wf a ha (nS.dom a z), nS.tab r.tb, by rw [ow]; exact r.nd, by rw [ow]; exact r.os, by rw [List.length_set]; exact r.len, fun k ov e h1 h2 => ?_⟩
  rw [sx]
  by_cases hk : k = i
  · subst hk
    have hl := (List.getElem?_eq_some_iff.mp h2).1
    rw [List.length_set] at hl
    rw [List.getElem?_set_self hl] at h2
    cases h2
    exact hat ov h1
  · rw [List.getElem?_set_ne (Ne.symm hk)] at h2
    have q := r.at_ k ov e h1 h2
    have ne : ∀ b, b ∈ ownA e → b ≠ p := fun b hb z => by
      subst z
      exact nd_one r.nd h (by rw [he0]; exact List.mem_singleton.mpr rfl) h2 hb (Ne.symm hk)
    cases e with
    | emp => trivial
    | val d => obtain ⟨v, q1, q2⟩ := q; exact ⟨v, q1, q2.nx n⟩
    | own b bs => obtain ⟨q1, xs, q2, q3⟩ := q; exact ⟨q1, xs, by rw [upd_ne (ne b (List.mem_singleton.mpr rfl))]; exact q2, q3.nx n⟩
    | owk b bs => obtain ⟨q1, xs, q2, q3⟩ := q; exact ⟨q1, xs, by rw [upd_ne (ne b (List.mem_singleton.mpr rfl))]; exact q2, q3.nx n⟩
    | owo b C dx bs => obtain ⟨q1, xs, q2, q3⟩ := q; exact ⟨q1, xs, by rw [upd_ne (ne b (List.mem_singleton.mpr rfl))]; exact q2, q3.nx n⟩
    | jar j => exact q
theorem Go.chG {i : Nat} {p : Addr} {e0 e1 : Ent} {u o : HO} (h : Γ[i]? = some e0) (he0 : ownA e0 = [p]) (he1 : ownA e1 = [p]) (hp : H p = some u) (pu : Pln u) (po : Pln o) : Go T J Γ H (Γ.set i e1) (upd H p o) := by
  have hm : p ∈ owned Γ := List.mem_flatMap.mpr ⟨_, List.mem_of_getElem? h, by rw [he0]; exact List.mem_singleton.mpr rfl⟩
  exact ⟨.put (.inr hm) hp pu po, fun q hq => .inl (by rw [owned_same h (by rw [he0, he1])] at hq; exact hq)⟩
/-- a field laid, as putF does -/
def putD (f : Str) (d : Dt) : List (Str × Dt) → List (Str × Dt)
  | [] => [(f, d)]
  | (k, x) :: r => if k = f then (k, d) :: r else (k, x) :: putD f d r
theorem RepF.put {f : Str} {v : V} {d : Dt} (rv : Rep K S H v d) : ∀ {xs : List (Str × V)} {fs : List (Str × Dt)}, RepF K S H xs fs → RepF K S H (putF f v xs) (putD f d fs)
  | _, _, .nil => .cons rv .nil
  | _, _, @RepF.cons _ _ _ k w x xs fs r t => by
    unfold putF putD
    by_cases hk : k = f
    · rw [if_pos hk, if_pos hk]; exact .cons rv t
    · rw [if_neg hk, if_neg hk]; exact .cons r (RepF.put rv t)
theorem RepF.nx' {T : Tbl} (x : Nx T S H H1) {v : List (Str × V)} {d : List (Str × Dt)} (r : RepF K S H v d) : RepF K S H1 v d := RepF.nx x r
theorem s_setO {i : Nat} {p Cl dx : Addr} {f : Str} {l : List (Str × Dt)} (h : Γ[i]? = some (.owo p Cl dx l)) (hl : l.length < 1000) (he : EX K T E X te Γ fun d => N (Γ.set i (.owo p Cl dx (putD f d l)))) :
    SW K T E X (oSet Cl f (tVar i) te) Γ N R B C := fun S0 J σ H r xo D n rt b c =>
  he S0 J σ H r xo.ex _ fun v d H2 a r2 n2 rv => by
    obtain ⟨es, xs, ep, rf⟩ := r2.getOb h
    have n3 : Nx T (Sx S0 Γ) H2 (upd H2 p (.ins Cl dx (putF f v xs))) := .put (.inr (mem_ownedO h)) ep trivial
    refine ⟨.ref p, es, p, dx, xs, rfl, ep, by rw [rf.len]; exact hl, n _ _ _ a (r2.chG h rfl rfl ep trivial trivial fun ov hov => ?_) ((r.go n2).trans (.chG h rfl rfl ep trivial trivial))⟩
    rw [es] at hov
    cases hov
    exact ⟨rfl, _, upd_same, (rf.put rv).nx n3⟩
end
end Lp

set_option Elab.async false
set_option linter.all false
set_option maxRecDepth 100000
set_option maxHeartbeats 4000000
/-! L19: makers and methods of own classes over data. Own work. -/
namespace Lp
open PySem PySem.Spec PyProof.Rows L2 LamX
abbrev IS := List Dt → (List (Str × Dt) → Prop) → XP → Prop
/-- what a maker asks of an __init__: given ds, the new object has fields of which P holds, or X is raised -/
def spI (K : Fg) (T : Tbl) (C : Addr) (F : IS) : Sp := fun vs H Q E => ∃ (S0 : Ad) (p dx : Addr) (ws : List V) (ds : List Dt) (P : List (Str × Dt) → Prop) (X : XP), vs = .ref p :: ws ∧ ¬ S0 p ∧ H p = some (.ins C dx []) ∧ RepL K (Rj S0 p) H ws ds ∧
  (∀ a, S0 a → ¬ Fre H a) ∧ Tabs T H ∧ F ds P X ∧ (∀ H2 xs fs, P fs → Nx T (fun a => a = p) H H2 → H2 p = some (.ins C dx xs) → RepF K (Rj S0 p) H2 xs fs → Q .non H2) ∧ XOk K T E X S0 Non (fun a => a = p) H
def OkI (K : Fg) (T : Tbl) (E : XK) (C : Addr) (F : IS) (n m : Nat) (t : TS) : Prop := ∀ p dx ds P X, F ds P X → 1 + ds.length + m = n ∧ SW K T E X t (.owo p C dx [] :: (ds.map Ent.val ++ List.replicate m .emp))
  (fun Γ' => ∃ fs, Γ'[0]? = some (.owo p C dx fs) ∧ P fs) (fun r Γ' => r = .val .non ∧ ∃ fs, Γ'[0]? = some (.owo p C dx fs) ∧ P fs) (fun _ => False) (fun _ => False)
section
variable {K : Fg} {T : Tbl} {E E' : XK} {X : XP} {S S' S0 J O O' : Ad} {H H1 H2 : Hp} {Γ Γ1 Γ' : List Ent} {σ σ' : L2.St}
variable {N N' : List Ent → Prop} {R : Rt → List Ent → Prop} {B C : List Ent → Prop} {ts tu : TS} {te ta tb : TE} {tt : TT} {tr : TA} {P : Dt → Prop} {A : List Dt → Prop} {ti : TI} {F : FS} {FJ : JS} {FO : OS} {FI : IS}
/-- a step behind which all but p stands, p new before -/
theorem Nx.cut {p : Addr} (a : Nx T S H H1) (b : Nx T (fun a => a = p) H1 H2) (hp : H p = none) : Nx T S H H2 :=
  ⟨fun c o e n s => b.le c o (a.le c o e n s) n (fun z => by rw [z, hp] at e; cases e), fun c e => a.dom c (b.dom c e), fun t => b.tab (a.tab t)⟩
theorem make_core {Cl : Addr} (h : EA K T E X tr Γ fun ds => FI ds (fun fs => P (.obj Cl fs)) X) (r : Rel K T S0 J Γ σ H) (xo : XOk K T E X S0 J J H) (hE : E' = E ∨ X = noX) {Q : VK}
    (q : ∀ v d H2, P d → Rel K T S0 J Γ σ H2 → Nx T J H H2 → Rep K (Sx S0 Γ) H2 v d → Q v H2) : tMake Cl (spI K T Cl FI) [] E' tr σ H Q :=
  h S0 J σ H r xo _ fun vs ds H1 f r1 n1 rl => fun x dx hx hd hne => by
    rw [List.append_nil]
    have na : ∀ {S : Ad}, Nx T S H1 (upd H1 dx (.own x)) := fun {S} => .new hd noT_own
    have hx1 : upd H1 dx (.own x) x = none := by rw [upd_ne (Ne.symm hne)]; exact hx
    have nb : ∀ {S : Ad}, Nx T S (upd H1 dx (.own x)) (upd (upd H1 dx (.own x)) x (.ins Cl dx [])) := fun {S} => .new hx1 noT_ins
    have nn : ∀ {S : Ad}, Nx T S H1 (upd (upd H1 dx (.own x)) x (.ins Cl dx [])) := fun {S} => na.trans nb
    have r2 := r1.nx nn
    have hfx : Fre H1 x := .of hx
    refine ⟨Sx S0 Γ, x, dx, vs, ds, _, X, rfl, r1.fresh hfx, upd_same, (rl.sub (Rj.new hfx)).nx nn, r2.live, r2.tb, f, fun H2 xs fs p n2 e rf => ⟨rfl, ?_⟩, ?_⟩
    · have n3 : ∀ {S : Ad}, Nx T S H1 H2 := fun {S} => Nx.cut nn n2 hx
      exact q _ _ H2 p (r1.nx n3) (n1.trans n3) (.obj (r1.fresh hfx) e (rf.sub (.of Rj.sub)))
    · rcases hE with e | e
      · rw [e]
        have xc := xo.call r1 n1
        exact fun C' fs xs dx' H3 h1 n3 h2 h3 h4 h5 => xc C' fs xs dx' H3 h1 (Nx.cut nn n3 hx) (nn.dom (S := Non) _ h2) h3 h4 h5
      · rw [e]; exact .none
theorem x_make {Cl : Addr} (h : EA K T E X tr Γ fun ds => FI ds (fun fs => P (.obj Cl fs)) X) : EX K T E X (tMake Cl (spI K T Cl FI) [] E tr) Γ P := fun S0 J σ H r xo Q q =>
  make_core h r xo (.inl rfl) q
/-- .. that raises nothing -/
theorem x_makeP {Cl : Addr} (h : EA K T E X tr Γ fun ds => FI ds (fun fs => P (.obj Cl fs)) noX) : EX K T E X (tMake Cl (spI K T Cl FI) [] E' tr) Γ P := fun S0 J σ H r xo Q q =>
  h S0 J σ H r xo _ fun vs ds H1 f r1 n1 rl => fun x dx hx hd hne => by
    rw [List.append_nil]
    have na : ∀ {S : Ad}, Nx T S H1 (upd H1 dx (.own x)) := fun {S} => .new hd noT_own
    have hx1 : upd H1 dx (.own x) x = none := by rw [upd_ne (Ne.symm hne)]; exact hx
    have nb : ∀ {S : Ad}, Nx T S (upd H1 dx (.own x)) (upd (upd H1 dx (.own x)) x (.ins Cl dx [])) := fun {S} => .new hx1 noT_ins
    have nn : ∀ {S : Ad}, Nx T S H1 (upd (upd H1 dx (.own x)) x (.ins Cl dx [])) := fun {S} => na.trans nb
    have r2 := r1.nx nn
    have hfx : Fre H1 x := .of hx
    refine ⟨Sx S0 Γ, x, dx, vs, ds, _, noX, rfl, r1.fresh hfx, upd_same, (rl.sub (Rj.new hfx)).nx nn, r2.live, r2.tb, f, fun H2 xs fs p n2 e rf => ⟨rfl, ?_⟩, .none⟩
    have n3 : ∀ {S : Ad}, Nx T S H1 H2 := fun {S} => Nx.cut nn n2 hx
    exact q _ _ H2 p (r1.nx n3) (n1.trans n3) (.obj (r1.fresh hfx) e (rf.sub (.of Rj.sub)))
/-- o.m(..): the object goes first -/
theorem x_methP {Cl : Addr} {m : Str} (ho : EX K T E X ta Γ fun x => ∃ fs, x = .obj Cl fs ∧ fs.lookup m = none ∧ EA K T E X tr Γ fun ds => F (x :: ds) (fun r => P r.dt) noX) : EX K T E X (tMeth Cl m (spD K T F) [] E' ta tr) Γ P := fun S0 J σ H r xo Q q =>
  ho S0 J σ H r xo _ fun v x H0 ⟨fs, ex, lm, h⟩ r0 n0 rv => by
    subst ex
    obtain ⟨a, dx, xs, e, hs, e2, rf⟩ := (show RepB K J (Sx S0 Γ) H0 v (.obj Cl fs) from .inl rv).obj
    subst e
    refine ⟨a, dx, xs, rfl, e2, rf.lookup_none lm, h S0 J σ H0 r0 (xo.nx n0) _ fun vs ds H1 f r1 n1 rl => ?_⟩
    rw [List.append_nil]
    exact ⟨Sx S0 Γ, .obj Cl fs :: ds, _, noX, .cons (rv.nx (r0.jS n1)) rl, r1.live, r1.tb, f, fun w rr H2 p n2 rw' => q w rr.dt H2 p (r1.nx n2) ((n0.trans n1).trans (n2.mono fun _ z => z.elim)) rw'.rep, .none⟩
theorem x_meth {Cl : Addr} {m : Str} (ho : EX K T E X ta Γ fun x => ∃ fs, x = .obj Cl fs ∧ fs.lookup m = none ∧ EA K T E X tr Γ fun ds => F (x :: ds) (fun r => P r.dt) X) : EX K T E X (tMeth Cl m (spD K T F) [] E ta tr) Γ P := fun S0 J σ H r xo Q q =>
  ho S0 J σ H r xo _ fun v x H0 ⟨fs, ex, lm, h⟩ r0 n0 rv => by
    subst ex
    obtain ⟨a, dx, xs, e, hs, e2, rf⟩ := (show RepB K J (Sx S0 Γ) H0 v (.obj Cl fs) from .inl rv).obj
    subst e
    refine ⟨a, dx, xs, rfl, e2, rf.lookup_none lm, h S0 J σ H0 r0 (xo.nx n0) _ fun vs ds H1 f r1 n1 rl => ?_⟩
    rw [List.append_nil]
    exact ⟨Sx S0 Γ, .obj Cl fs :: ds, _, X, .cons (rv.nx (r0.jS n1)) rl, r1.live, r1.tb, f, fun w rr H2 p n2 rw' => q w rr.dt H2 p (r1.nx n2) ((n0.trans n1).trans (n2.mono fun _ z => z.elim)) rw'.rep, xo.call r1 (n0.trans n1)⟩
/-- .. that gives a new list -/
theorem l_methP {Cl : Addr} {m : Str} (ho : EX K T E X ta Γ fun x => ∃ fs, x = .obj Cl fs ∧ fs.lookup m = none ∧ EA K T E X tr Γ fun ds => F (x :: ds) (fun r => ∃ es, r = .new es ∧ A es) noX) : EL K T E X (tMeth Cl m (spD K T F) [] E' ta tr) Γ A := fun S0 J σ H r xo Q q =>
  ho S0 J σ H r xo _ fun v x H0 ⟨fs, ex, lm, h⟩ r0 n0 rv => by
    subst ex
    obtain ⟨a, dx, xs, e, hs, e2, rf⟩ := (show RepB K J (Sx S0 Γ) H0 v (.obj Cl fs) from .inl rv).obj
    subst e
    refine ⟨a, dx, xs, rfl, e2, rf.lookup_none lm, h S0 J σ H0 r0 (xo.nx n0) _ fun vs ds H1 f r1 n1 rl => ?_⟩
    rw [List.append_nil]
    refine ⟨Sx S0 Γ, .obj Cl fs :: ds, _, noX, .cons (rv.nx (r0.jS n1)) rl, r1.live, r1.tb, f, fun w rr H2 ⟨es, e, p⟩ n2 rw' => ?_, .none⟩
    subst e
    obtain ⟨l, ys, e, h1, h2, h3, h4⟩ := rw'
    subst e
    exact q l ys es H2 p (r1.nx n2) ((n0.trans n1).trans (n2.mono fun _ z => z.elim)) ((n0.trans n1).dom _ h2) h3 h4
/-- xs.clear() of a new list -/
theorem s_clearNew (h : EL K T E X te Γ fun _ => N Γ) : SW K T E X (tDrop (tBM0 K "list" rClear te)) Γ N R B C := fun S0 J σ H r xo D n rt b c =>
  h S0 J σ H r xo.ex _ fun p xs ds H2 a r2 n2 h1 h2 rl => by
    have fr := r.notNew h1 n2
    have hne := r.fresh h1
    have n3 : Nx T (fun a => a = p) H2 (upd H2 p (.lst [])) := .put rfl h2 trivial
    have n3' : Nx T (Rj (Sx S0 Γ) p) H2 (upd H2 p (.lst [])) := n3.mono fun b z => .inr z
    have r3 : Rel K T S0 J Γ σ (upd H2 p (.lst [])) := by
      refine ⟨r2.js, fun a ha => (r2.jr a ha).nx n3 fun z => hne (.inl (by rw [← z]; exact r2.js _ ha)), fun a ha z => r2.wf a ha (n3.dom a z), n3.tab r2.tb, r2.nd, r2.os, r2.len, fun k o e g1 g2 => ?_⟩
      have q := fr k o e g1 g2
      cases e with
      | emp => trivial
      | val d => obtain ⟨v, q1, q2⟩ := q; exact ⟨v, q1, (q2.nx n3').sub (.of Rj.sub)⟩
      | own b bs => obtain ⟨q1, xs, q2, q3⟩ := q; exact ⟨q1, xs, n3.le _ _ q2 noT_lst fun z => hne (.inr (by rw [← z]; exact mem_owned g2)), (q3.nx n3').sub (.of Rj.sub)⟩
      | owk b bs => obtain ⟨q1, xs, q2, q3⟩ := q; exact ⟨q1, xs, n3.le _ _ q2 noT_dK fun z => hne (.inr (by rw [← z]; exact mem_ownedK g2)), (q3.nx n3').sub (.of Rj.sub)⟩
      | owo b C dx bs => obtain ⟨q1, xs, q2, q3⟩ := q; exact ⟨q1, xs, n3.le _ _ q2 noT_ins fun z => hne (.inr (by rw [← z]; exact mem_ownedO g2)), (q3.nx n3').sub (.of Rj.sub)⟩
      | jar j => exact q
    have g : Go T J Γ H Γ (upd H2 p (.lst [])) := by
      refine ⟨⟨fun b o e nt s => ?_, fun b z => n2.dom b (n3.dom b z), fun t => n3.tab (n2.tab t)⟩, fun p hp => .inl hp⟩
      refine n3.le _ _ (n2.le _ _ e nt fun z => s (.inl z)) nt fun z => ?_
      rw [z] at e
      exact h1 _ e nt
    exact ⟨.inl ⟨rfl, xs, .inl (.inl h2)⟩, p, xs, rfl, rfl, h2, n Γ σ _ a r3 g⟩
/-- the body of an __init__ -/
theorem fn_I {Cl : Addr} {Ns : List Str} {vs : List V} {m : Nat} {t : TS} {Q : VK} (hF : OkI K T E Cl FI Ns.length m t)
    (h : spI K T Cl FI vs H Q E) : t { nx := fun _ H' => Q .non H', rt := Q } (L2.start Ns vs) H := by
  obtain ⟨S0, p, dx, ws, es, P, X, ev, hs, hp, rw', wf, tb, f, q, xo⟩ := h
  subst ev
  obtain ⟨hl, sw⟩ := hF p dx es P X f
  have hv := rw'.len
  have est : L2.start Ns (.ref p :: ws) = some (.ref p) :: (ws.map some ++ List.replicate m none) := by
    unfold L2.start
    have : Ns.length - (V.ref p :: ws).length = m := by simp only [List.length_cons]; omega
    rw [this]
    rfl
  rw [est]
  have ow : owned (.owo p Cl dx [] :: (es.map Ent.val ++ List.replicate m .emp)) = [p] := by
    show [p] ++ owned (es.map Ent.val ++ List.replicate m .emp) = [p]
    rw [owned_vals]; rfl
  have sx : Sx Non (.owo p Cl dx [] :: (es.map Ent.val ++ List.replicate m .emp)) = fun a => a = p := by
    funext a
    unfold Sx
    rw [ow]
    simp [Non]
  have wf' : ∀ a, Rj S0 p a → ¬ Fre H a := fun a z q => by
    rcases z with z | z
    · exact wf a z q
    · rw [z] at q; exact q _ hp noT_ins
  have r0 := start_tail (T := T) (m := m) rw' wf' tb
  have sxs : ∀ b, Sx S0 (.owo p Cl dx [] :: (es.map Ent.val ++ List.replicate m .emp)) b → Rj S0 p b := fun b z => by
    rcases z with z | z
    · exact .inl z
    · rw [ow] at z; exact .inr (List.mem_singleton.mp z)
  have r1 : Rel K T S0 Non (.owo p Cl dx [] :: (es.map Ent.val ++ List.replicate m .emp)) (some (.ref p) :: (ws.map some ++ List.replicate m none)) H := by
    refine ⟨fun _ h => h.elim, fun _ h => h.elim, wf, tb, by rw [ow]; simp, by rw [ow]; exact fun q hq => by rw [List.mem_singleton.mp hq]; exact hs, by rw [List.length_cons, List.length_cons, r0.len], fun i o e h1 h2 => ?_⟩
    cases i with
    | zero => cases h1; cases h2; exact ⟨rfl, [], hp, .nil⟩
    | succ i => exact (r0.at_ i o e (by simpa using h1) (by simpa using h2)).sub fun b z => .inl (sxs b z)
  have en : ∀ {Γ' H'}, Go T Non (.owo p Cl dx [] :: (es.map Ent.val ++ List.replicate m .emp)) H Γ' H' → Nx T (fun a => a = p) H H' := fun g => by
    have := g.nx
    rw [sx] at this
    exact this
  have fin : ∀ {Γ' σ' H' fs}, Rel K T S0 Non Γ' σ' H' → Γ'[0]? = some (.owo p Cl dx fs) → ∃ xs', H' p = some (.ins Cl dx xs') ∧ RepF K (Rj S0 p) H' xs' fs := fun r h0 => by
    obtain ⟨_, xs', e2, rl⟩ := r.getOb h0
    exact ⟨xs', e2, rl.sub (.of fun b z => by
      rcases z with z | z
      · exact .inl z
      · rw [z]; exact .inr (mem_ownedO h0))⟩
  refine sw S0 Non _ H r1 (by rw [sx]; exact xo) _ (fun Γ' σ' H' ⟨fs, h0, pp⟩ r g => ?_) (fun r v Γ' σ' H' ⟨er, fs, h0, pp⟩ r2 g rv => ?_) (fun _ _ _ z => z.elim) (fun _ _ _ z => z.elim)
  · obtain ⟨xs', e2, rl⟩ := fin r h0
    exact q H' xs' fs pp (en g) e2 rl
  · obtain ⟨xs', e2, rl⟩ := fin r2 h0
    subst er
    cases (show Rep K _ H' v .non from rv)
    exact q H' xs' fs pp (en g) e2 rl
theorem OkI.body {Cl : Addr} {Ns : List Str} {vs : List V} {m : Nat} {t : TS} {Q : VK} (w : OkI K T E Cl FI Ns.length m t) (h : spI K T Cl FI vs H Q E) : t { nx := fun _ H' => Q .non H', rt := Q } (L2.start Ns vs) H := fn_I w h
theorem OkI.len {Cl : Addr} {n k m : Nat} {vs : List V} {t : TS} {Q : VK} (w : OkI K T E Cl FI n m t) (h : spI K T Cl FI vs H Q E) (e : k + m = n := by decide) : vs.length = k := by
  obtain ⟨S0, p, dx, ws, es, P, X, ev, _, _, rl, _, _, f, _⟩ := h
  have := (w p dx es P X f).1
  rw [ev, List.length_cons, rl.len]; omega
end
end Lp

set_option Elab.async false
set_option linter.all false
set_option maxRecDepth 100000
set_option maxHeartbeats 4000000
/-! L20: own objects compared: by an own __eq__, __lt__, __le__; != by way of __eq__; with things that decline. Own work. -/
namespace LpO
open PySem PySem.Spec PyProof.Rows
open AutoSeq1 (wpAny_loadPart')
section
variable {prog : Program} {w : World} {A A2 : Around} {E : Value → Shared → Prop} {s : Shared} {K : PySem.W.Frag} {x C f : Addr} {ox : Obj} {od : Option Obj} {b tb : Value}
/-- once the left one answers -/
theorem rich_one {op : CmpOp} {Q : Value → Shared → Prop} (hu : A.units < cLine) (X : K.In s.heap) (I : PySem.W.InstAt s.heap x ox C od) (hb : PySem.W.Looks (model prog w) s.heap (typeOf b) tb) (hn : PySem.W.notFirst K C tb = true)
    (one : wpAny (model prog w) A (tryCompare (.ref x) (cmpInfo op).2.1 b) (fun r s' => ∃ v, r = some v ∧ Q v s') E s) : wpAny (model prog w) A (richCompare op (.ref x) b) Q E s := by
  unfold richCompare
  simp only [oneThing_ref]
  refine wpAny_holding (wpAny_bind (wpAny_cRoomFor hu ?_))
  refine wpAny_bind (I.type.here (wpAny_bind (hb.here ?_)))
  have fin : ∀ (r : Option Value) (s' : Shared) (k : Sem Value), (∃ v, r = some v ∧ Q v s') → wpAny (model prog w) A (match r with | some v => pure v | _ => k) Q E s' := fun r s' k ⟨v, e, q⟩ => by
    subst e
    exact wpAny_pure q
  split
  · rename_i q
    have e : PySem.W.subIn K tb (.ref C) = some false := by
      rcases Bool.or_eq_true_iff.mp hn with e | e
      · rw [beq_iff_eq.mp e] at q; simp at q
      · exact beq_iff_eq.mp e
    refine wpAny_bind ((PySem.W.looks_subIn X e).here ?_)
    simp only [Bool.false_eq_true, if_false]
    refine wpAny_bind (wpAny_mono one (fun r s' z => ?_) fun _ _ e => e)
    exact fin r s' _ z
  · refine wpAny_bind (wpAny_pure ?_)
    simp only [Bool.false_eq_true, if_false]
    refine wpAny_bind (wpAny_mono one (fun r s' z => ?_) fun _ _ e => e)
    exact fin r s' _ z
/-- == where both decline -/
theorem rich_no {Q : Value → Shared → Prop} (hu : A.units < cLine) (X : K.In s.heap) (I : PySem.W.InstAt s.heap x ox C od) {T : String} (hb : s.TypeIs b T) (hn : PySem.W.subIn K (.type T) (.ref C) = some false)
    (one : wpAny (model prog w) A (tryCompare (.ref x) "__eq__" b) (fun r s1 => r = none ∧ wpAny (model prog w) A (tryCompare b "__eq__" (.ref x)) (fun r s2 => r = none ∧ wpAny (model prog w) A (isSame (.ref x) b) (fun v s3 => v = false ∧ Q (.bool false) s3) E s2) E s1) E s) :
    wpAny (model prog w) A (richCompare .Eq (.ref x) b) Q E s := by
  simp only [richCompare, cmpInfo_Eq, oneThing_ref]
  refine wpAny_holding (wpAny_bind (wpAny_cRoomFor hu ?_))
  refine wpAny_bind (I.type.here (wpAny_bind (wpAny_typeOf hb ?_)))
  split
  · refine wpAny_bind ((PySem.W.looks_subIn X hn).here ?_)
    simp only [Bool.false_eq_true, if_false, Bool.not_false, if_true]
    refine wpAny_bind (m := tryCompare (.ref x) _ b) (wpAny_mono one (fun r s1 z => ?_) fun _ _ e => e)
    obtain ⟨z1, two⟩ := z
    subst z1
    refine wpAny_bind (m := tryCompare b _ (.ref x)) (wpAny_mono two (fun r s2 z => ?_) fun _ _ e => e)
    obtain ⟨z1, three⟩ := z
    subst z1
    refine wpAny_bind (wpAny_rule (wpAny_bind (wpAny_mono three (fun v s3 z => ?_) fun _ _ e => e)))
    obtain ⟨z1, q⟩ := z
    subst z1
    exact wpAny_pure q
  · rename_i q
    exact absurd (by simp) q
/-- object's own != is asked -/
theorem ne_bound {M : Model} {args : List Value} {Q : Option Value → Shared → Prop} (X : K.In s.heap) (I : PySem.W.InstAt s.heap x ox C od) (hs : PySem.W.findIn K (.ref C) "__ne__" = some (some (.builtin "object.__ne__")))
    (h : wpAny M A (call (.builtin "object.__ne__") (.ref x :: args)) (fun v => Q (some v)) E s) : wpAny M A (callSpecialIfBound? (.ref x) "__ne__" args) Q E s := by
  have fin : wpAny M A (call (.builtin "object.__ne__") ([.ref x] ++ args) >>= fun v => pure (some v)) Q E s := wpAny_bind (wpAny_mono h (fun v s' h' => wpAny_pure h') fun _ _ h' => h')
  simp only [callSpecialIfBound?, bindSpecialIfBound?]
  refine wpAny_holding (wpAny_bind (wpAny_bind (wpAny_bind (I.type.here ((PySem.W.looks_findIn X hs).here (wpAny_bind (wpAny_askSetting (wpAny_ite ?_))))))))
  split
  · exact wpAny_bind (wpAny_of_eq (F.cmp_object.ne.bind _) (wpAny_pure (by exact fin)))
  · exact wpAny_tryCatch (wpAny_bind (wpAny_of_eq (F.cmp_object.ne.bind _) (wpAny_pure (by exact fin))))
theorem ne_entry {Q : Fin → Shared → Prop} (hu : A.units < cLine) (X : K.In s.heap) (I : PySem.W.InstAt s.heap x ox C od) (hs : PySem.W.findIn K (.ref C) "__eq__" = some (some (.ref f))) (hf : PySem.W.isFn K (.ref f) = true)
    (h : wpAny (model prog w) A (call (.ref f) [.ref x, b]) (fun v s' => ∃ c, v = .bool c ∧ Q (.done (.ret (.bool (!c)))) s') E s) : wpAny (model prog w) A (Builtin.«object.__ne__» ⟨[.ref x, b], []⟩) Q E s := by
  unfold Builtin.«object.__ne__»
  repeat (first
    | with_reducible refine wpAny_cRoomFor hu ?_
    | (refine wpAny_bind (m := callSpecialIfBound? (.ref x) (Str.ofString "__eq__") [b]) (PySem.W.ifBound_K X I hs hf (wpAny_mono h (fun r s' hr => by
        obtain ⟨c, rfl, hq⟩ := hr
        repeat (first | exact hq | exact wpAny_pure hq | exact wpAny_truthy_bool hq | (refine wpAny_bind (m := truthy (.bool _)) (wpAny_truthy_bool ?_)) | wp_step)) fun _ _ e => e)))
    | wp_step)
theorem rich_ne {Q : Value → Shared → Prop} (hu : A.units + 1 < cLine) (X : K.In s.heap) (I : PySem.W.InstAt s.heap x ox C od) (hb : PySem.W.Looks (model prog w) s.heap (typeOf b) tb) (hn : PySem.W.notFirst K C tb = true)
    (hm : PySem.W.mroIn K C (.type "object") = some true) (hne : PySem.W.findIn K (.ref C) "__ne__" = some (some (.builtin "object.__ne__"))) (hs : PySem.W.findIn K (.ref C) "__eq__" = some (some (.ref f))) (hf : PySem.W.isFn K (.ref f) = true)
    (h : wpAny (model prog w) A.in1 (call (.ref f) [.ref x, b]) (fun v s' => ∃ c, v = .bool c ∧ Q (.bool (!c)) s') E s) : wpAny (model prog w) A (richCompare .NotEq (.ref x) b) Q E s := by
  refine rich_one (op := .NotEq) (Nat.lt_of_succ_lt hu) X I hb hn ?_
  unfold tryCompare
  refine wpAny_bind (ne_bound X I hne (wpAny_call (codeAny_call_builtin F.cmp_object.ne.plain F.cmpEntry_ne (PySem.W.check_slot F.cmpKind_ne F.cmpSplit_ne (I.type.andThen (PySem.W.looks_mroIn X hm)) (F.cmpArgs_ne _ _) (ne_entry (A := A.in1) hu X I hs hf (wpAny_mono h (fun v s' hv => ?_) fun _ _ e => e))))))
  obtain ⟨c, rfl, hq⟩ := hv
  exact ⟨c, rfl, wpAny_pure ⟨_, rfl, hq⟩⟩
/-! ### built-in things decline an instance -/
abbrev Dn (prog : Program) (w : World) (A : Around) (R : Result → Shared → Prop) : Fin → Shared → Prop := fun fin s' => match fin with
  | .done f => R (.ok f) s'
  | .again c' => c'.quiet = true ∧ codeAny (model prog w) A c' R s'
theorem str_no {a : Str} {t : Tok} {dx : Addr} {R : Result → Shared → Prop} (ho : s.heap.get? x = some (PySem.W.instObj C dx)) (h : R (.ok (.ret .notImplemented)) s) :
    wpAny (model prog w) A (Builtin.«str.__eq__» ⟨[.str a t, .ref x], []⟩) (Dn prog w A2 R) (fun e s' => R (.error e) s') s := by
  obtain ⟨hp', g, d, tk, os⟩ := s
  unfold PySem.W.instObj at ho
  wp_walk using wpAny_loadPart' ho
  exact h
theorem int_no {a : Int} {t : Tok} {dx : Addr} {R : Result → Shared → Prop} (ho : s.heap.get? x = some (PySem.W.instObj C dx)) (h : R (.ok (.ret .notImplemented)) s) :
    wpAny (model prog w) A (Builtin.«int.__eq__» ⟨[.int a t, .ref x], []⟩) (Dn prog w A2 R) (fun e s' => R (.error e) s') s := by
  obtain ⟨hp', g, d, tk, os⟩ := s
  unfold PySem.W.instObj at ho
  wp_walk using wpAny_loadPart' ho
  exact h
theorem bool_no {a : Bool} {dx : Addr} {R : Result → Shared → Prop} (ho : s.heap.get? x = some (PySem.W.instObj C dx)) (h : R (.ok (.ret .notImplemented)) s) :
    wpAny (model prog w) A (Builtin.«int.__eq__» ⟨[.bool a, .ref x], []⟩) (Dn prog w A2 R) (fun e s' => R (.error e) s') s := by
  obtain ⟨hp', g, d, tk, os⟩ := s
  unfold PySem.W.instObj at ho
  wp_walk using wpAny_loadPart' ho
  exact h
theorem tup_no {l dx : Addr} {items : Array Value} {n : Nat} {dd : Option Addr} {sl : Array (Option Value)} {R : Result → Shared → Prop} (hl : s.heap.get? l = some { cls := .type "tuple", dict := dd, data := .seq items n, slots := sl })
    (ho : s.heap.get? x = some (PySem.W.instObj C dx)) (X : K.In s.heap) (hm : PySem.W.mroIn K C (.type "tuple") = some false) (h : R (.ok (.ret .notImplemented)) s) :
    wpAny (model prog w) A (Builtin.«tuple.__eq__» ⟨[.ref l, .ref x], []⟩) (Dn prog w A2 R) (fun e s' => R (.error e) s') s := by
  obtain ⟨hp', g, d, tk, os⟩ := s
  unfold PySem.W.instObj at ho
  wp_walk using wpAny_loadPart' hl, wpAny_loadPart' ho
  refine (PySem.W.looks_mroIn X hm).here ?_
  wp_walk using wpAny_loadPart' hl, wpAny_loadPart' ho
  exact h
theorem list_no {l dx : Addr} {items : Array Value} {n : Nat} {dd : Option Addr} {sl : Array (Option Value)} {R : Result → Shared → Prop} (hl : s.heap.get? l = some { cls := .type "list", dict := dd, data := .seq items n, slots := sl })
    (ho : s.heap.get? x = some (PySem.W.instObj C dx)) (X : K.In s.heap) (hm : PySem.W.mroIn K C (.type "list") = some false) (h : R (.ok (.ret .notImplemented)) s) :
    wpAny (model prog w) A (Builtin.«list.__eq__» ⟨[.ref l, .ref x], []⟩) (Dn prog w A2 R) (fun e s' => R (.error e) s') s := by
  obtain ⟨hp', g, d, tk, os⟩ := s
  unfold PySem.W.instObj at ho
  wp_walk using wpAny_loadPart' hl, wpAny_loadPart' ho
  refine (PySem.W.looks_mroIn X hm).here ?_
  wp_walk using wpAny_loadPart' hl, wpAny_loadPart' ho
  exact h
end
end LpO

set_option Elab.async false
set_option linter.all false
set_option maxRecDepth 100000
set_option maxHeartbeats 4000000
/-! L21: own objects compared, over data. Own work. -/
namespace Lp
open PySem PySem.Spec PyProof.Rows L2 LamX
section
variable {X : Cx} {k : Nat} {C : Addr} {sp : Sp} {E : XK}
/-- a callee runs, somewhere below -/
theorem run_below {CX : CXT} {f : Addr} {fd : FuncData} {ps : List Str} {ds : List Value} {dvs : List V} {A : Around} {pins : List (Addr × Obj)} {σ : L2.St} {H : Hp} {s : Shared} {Q : VK} {us : List Value} {vs : List V} (F : FnOk X.prog X.w X.K X.mg X.base CX k f fd ps sp) (hr : Room k A)
    (he : Env0 X.prog X.w X.K X.mg X.base A X.stack s H) (hb : Binds X.K fd ps ds) (hd : Vals dvs ds) (hx : Passes CX X E) (I : Inv X pins σ H s) (r : Vals vs us) (h : sp (vs ++ dvs) H Q E) : wpAny (model X.prog X.w) A (call (.ref f) us) (EP X pins σ Q) X.xe s := by
  have r2 : Vals (vs ++ dvs) (us ++ ds) := r.append hd
  refine wpAny_call (codeAny_mono (F.run A X.stack s H ⟨us, []⟩ (us ++ ds) (vs ++ dvs) Q E hr he (hb s us I.kIn (by rw [← r2.length]; exact F.len _ _ _ _ h)) r2 h) fun r s' hq => ?_)
  cases r with
  | error e => exact hx pins σ H s e s' I hq
  | ok fl => cases fl with
    | ret u => exact I.after hq
    | _ => exact False.elim hq
/-- both are instances of the class at C -/
def rCmpO (C : Addr) (sp : Sp) (E : XK) : R2 := fun x y H Q => ∃ a b dx dy fs gs, x = .ref a ∧ y = .ref b ∧ H a = some (.ins C dx fs) ∧ H b = some (.ins C dy gs) ∧ sp [x, y] H Q E
theorem op_cmpM {op : CmpOp} (ho : compareOp op = richCompare op) (c : Cm X.prog X.w X.K X.mg X.base k C (cmpInfo op).2.1 sp []) (hr : Room k X.A) (hx : Passes (L2.CX X.prog X.w) X E) : OpR X (compareOp op) (rCmpO C sp E) := by
  obtain ⟨f, fd, ps, ds, hc, hm, F, hb, hd⟩ := c.ex
  intro pins s σ H x y v u Q I rx ry h
  obtain ⟨a, b, dx, dy, fs, gs, rfl, rfl, ha, hb', hs⟩ := h
  cases rx
  cases ry
  obtain ⟨mA, J, _⟩ := ins_get I.hok ha
  obtain ⟨mB, J', _⟩ := ins_get I.hok hb'
  obtain ⟨od, J, _⟩ := J.look
  obtain ⟨od', J', _⟩ := J'.look
  obtain ⟨m, hF⟩ := I.fr
  rw [ho]
  refine PySem.W.cmp_K (op := op) (tb := .ref C) (units0 hr) hF I.ok.mod.kin J J'.type (by simp [PySem.W.notFirst]) hm.at_ hm.fn ?_
  refine thn (run_fn (us := [.ref a, .ref b]) (vs := [.ref a, .ref b]) F hr hb hd hx I (.cons rfl (.cons rfl .nil)) (by rw [List.append_nil]; exact hs)) fun w s' hq => ?_
  obtain ⟨z, H', I', rz, q⟩ := hq
  cases z with
  | non => cases rz; exact ⟨.non, H', I', rfl, q⟩
  | bl b => cases rz; exact ⟨.bl b, H', I', rfl, q⟩
  | ref b => cases rz; exact ⟨.ref b, H', I', rfl, q⟩
  | ty b => cases rz; exact ⟨.ty b, H', I', rfl, q⟩
  | int b => obtain ⟨t, rfl⟩ := rz; exact ⟨.int b, H', I', ⟨t, rfl⟩, q⟩
  | str b => obtain ⟨t, rfl⟩ := rz; exact ⟨.str b, H', I', ⟨t, rfl⟩, q⟩
  | byt b => obtain ⟨t, rfl⟩ := rz; exact ⟨.byt b, H', I', ⟨t, rfl⟩, q⟩
  | flt b => obtain ⟨t, rfl⟩ := rz; exact ⟨.flt b, H', I', ⟨t, rfl⟩, q⟩
/-- != by way of the own == -/
def rNeO (C : Addr) (sp : Sp) (E : XK) : R2 := fun x y H Q => ∃ a b dx dy fs gs, x = .ref a ∧ y = .ref b ∧ H a = some (.ins C dx fs) ∧ H b = some (.ins C dy gs) ∧ sp [x, y] H (fun v H' => ∃ c, v = .bl c ∧ Q (.bl (!c)) H') E
theorem op_neM (c : Cm X.prog X.w X.K X.mg X.base k C "__eq__" sp []) (hmo : PySem.W.mroIn X.K C (.type "object") = some true) (hne : PySem.W.findIn X.K (.ref C) "__ne__" = some (some (.builtin "object.__ne__"))) (hr : Room (k + 1) X.A) (hx : Passes (L2.CX X.prog X.w) X E) :
    OpR X (compareOp .NotEq) (rNeO C sp E) := by
  obtain ⟨f, fd, ps, ds, hc, hm, F, hb, hd⟩ := c.ex
  intro pins s σ H x y v u Q I rx ry h
  obtain ⟨a, b, dx, dy, fs, gs, rfl, rfl, ha, hb', hs⟩ := h
  cases rx
  cases ry
  obtain ⟨mA, J, _⟩ := ins_get I.hok ha
  obtain ⟨mB, J', _⟩ := ins_get I.hok hb'
  obtain ⟨od, J, _⟩ := J.look
  obtain ⟨od', J', _⟩ := J'.look
  show wpAny _ _ (richCompare .NotEq (.ref a) (.ref b)) _ _ s
  have hu : X.A.units + 1 < cLine := by have := hr.un; omega
  refine LpO.rich_ne (tb := .ref C) hu I.kIn J J'.type (by simp [PySem.W.notFirst]) hmo hne hm.at_ hm.fn ?_
  refine thn (run_below (us := [.ref a, .ref b]) (vs := [.ref a, .ref b]) F hr.in1 I.env0.in1 hb hd hx I (.cons rfl (.cons rfl .nil)) (by rw [List.append_nil]; exact hs)) fun w s' hq => ?_
  obtain ⟨z, H', I', rz, c, ez, q⟩ := hq
  subst ez
  cases rz
  exact ⟨c, rfl, .bl (!c), H', I', rfl, q⟩
end
/-! ### an own == that declines -/
/-- called with what is no instance, it declines -/
structure CmN (P : Program) (w : World) (K : Fg) (mg : Str → Option Value) (base : Heap) (k : Nat) (C : Addr) (m : Str) : Prop where
  ex : ∃ (f : Addr) (fd : FuncData) (ps : List Str), Meth K C m f ∧ Binds K fd ps [] ∧ ps.length = 2 ∧
    ∀ (A : Around) (outer : List Env) (s : Shared) (H : Hp) (args : Args) (us : List Value) (x y : V) (n : String), Room k A → Env0 P w K mg base A outer s H → BindsTo s fd args (ps.zip us) → Vals [x, y] us → TyX K H y (.type n) → n ∈ tyNames →
      codeAny (model P w) A (.call (.ref f) args) (fun r s' => r = .ok (.ret .notImplemented) ∧ CE outer P w H s (fun v H' => v = .non ∧ H' = H) .none s') s
section
variable {CX : CXT} {P : Program} {w : World} {K : Fg} {mg : Str → Option Value} {base : Heap} {k : Nat} {C f : Addr} {name qual : Str} {params : Arguments} {test : Expr} {rest : List Stmt} {scope : Scope} {dV kV doc pm cdv ct oc : Value} {an od : Option Addr} {osl : Array (Option Value)}
variable {Ns ps : List Str} {Cs : List Addr} {p1 p2 p3 : Pos}
theorem ni_of (lk : K.lookup f = some ⟨oc, od, .func (PySem.W.fnOf name qual params (.If test [.Return (some (.Name "NotImplemented" p1)) p2] [] p3 :: rest) scope dV kV doc pm an cdv ct), osl⟩) (hcd : PySem.W.codeIn K cdv qual = true) (S : FnScope Ns ps scope) (hps : ps.length = 2)
    (hD : C ∈ Cs) (hgl : scope.names.lookup ("NotImplemented" : Str) = some .globalImplicit) (hmn : mg "NotImplemented" = none)
    (ht : ∀ (A : Around) (outer : List Env) (s : Shared) (H : Hp), Room k (A.deeper (envOfC qual scope s.heap.objs.size f cdv)) →
      PT (cxOf C8.CX0 P w K mg base Ns qual scope f cdv A outer s H C8.E0) test (tNot (tB (tCB (rIsiU K Cs) (tCons (tVar 1) (tCons (tC (.ref C)) tNil))))))
    (hb : Binds K (PySem.W.fnOf name qual params (.If test [.Return (some (.Name "NotImplemented" p1)) p2] [] p3 :: rest) scope dV kV doc pm an cdv ct) ps []) {m : Str} (hm : Meth K C m f) : CmN P w K mg base (k + 1) C m := by
  refine ⟨f, _, ps, hm, hb, hps, fun A outer s H args us x y n hr e0 hbi r ty hn => ?_⟩
  have KX : K.In s.heap := e0.mod.kin.keeps fun b o e => (e0.bs b o e).1
  have lim : s.heap.NoLimit := e0.mod.nolimit.keeps fun b o e => (e0.bs b o e).1
  have hkind : ∀ y ∈ ps.zip us, scope.names.lookup y.1 = some .local ∨ (scope.names.lookup y.1 = some .cell ∧ ((cellsFrom (s.heap.objs.size + 1) scope.names []).lookup y.1).isSome = true) := fun ⟨nm, v⟩ hy =>
    (S.par nm (List.of_mem_zip hy).1).elim .inl fun q => .inr ⟨q, PySem.W.cellsFrom_some _ _ _ (.inl q)⟩
  refine codeAny_call_function hr.depth (KX _ _ lk) rfl S.co S.gen rfl (PySem.W.codeRec_of KX hcd) (hbi _ _ _ _ ?_)
  refine wpAny_newFunctionEnv_cells S.kind hkind fun env he s1 xx => ?_
  subst he
  refine ⟨lim.keeps xx.toInCall.keep, codeAny_func ?_⟩
  have I : Inv (cxOf C8.CX0 P w K mg base Ns qual scope f cdv A outer s H C8.E0) [] (L2.start Ns [x, y]) H s1 := inv_start S hr.hd e0 (by rw [hps]; rfl) r xx
  have hN : 2 ≤ Ns.length := by
    have := S.pre
    have l := congrArg List.length this
    rw [List.length_take, hps] at l
    omega
  have h1 : (L2.start Ns [x, y])[1]? = some (some y) := by simp [L2.start]
  have key : ∀ Z : Cx, Z = cxOf C8.CX0 P w K mg base Ns qual scope f cdv A outer s H C8.E0 → wpAny (model Z.prog Z.w) Z.A (execs (.If test [.Return (some (.Name "NotImplemented" p1)) p2] [] p3 :: rest) Z.env) (fun fl s' => fl = .ret .notImplemented ∧ Inv Z [] (L2.start Ns [x, y]) H s') Z.xe s1 := fun Z hZ => by
    have I' : Inv Z [] (L2.start Ns [x, y]) H s1 := by rw [hZ]; exact I
    have ht' : PT Z test (tNot (tB (tCB (rIsiU K Cs) (tCons (tVar 1) (tCons (tC (.ref C)) tNil))))) := by rw [hZ]; exact ht A outer s H (hr.deeper _)
    have hgl' : Gl Z "NotImplemented" := by rw [hZ]; exact hgl
    have hmn' : Z.mg "NotImplemented" = none := by rw [hZ]; exact hmn
    refine wpAny_execs_cons (thn (Q := fun fl s' => fl = .ret .notImplemented ∧ Inv Z [] (L2.start Ns [x, y]) H s') (wpAny_If (thn (ht'.run [] s1 _ H (fun b H' => b = true ∧ H' = H) I' ?_) fun d s2 ⟨H1, I1, q1⟩ => ?_)) fun fl s2 q => ?_) (Q := fun fl s' => fl = .ret .notImplemented ∧ Inv Z [] (L2.start Ns [x, y]) H s')
    · refine ⟨y, h1, ?_⟩
      refine .inr (.inr (.inl ⟨y, n, C, rfl, hD, ty, hn, false, rfl, rfl, rfl⟩))
    · obtain ⟨e1, e2⟩ := q1
      subst e1 e2
      show wpAny _ _ (execs [_] _) (fun fl s' => fl = .ret .notImplemented ∧ Inv Z [] (L2.start Ns [x, y]) H1 s') _ s2
      refine wpAny_execs_cons (wpAny_Return_some (ld_blt I1 hgl' hmn' (u := .notImplemented) (by first | rfl | kernel_rfl) ?_))
      exact ⟨rfl, I1⟩
    · obtain ⟨e1, I2⟩ := q
      subst e1
      exact ⟨rfl, I2⟩
  refine wpAny_mono (key _ rfl) (fun fl s' hs => ?_) fun e s' hs => wpAny_mono hs (fun _ _ z => (show False from z).elim) fun _ _ z => (show False from z).elim
  · obtain ⟨e1, J⟩ := hs
    subst e1
    exact ⟨rfl, .non, H, J.os, J.bare, J.base, J.hok, rfl, rfl, rfl⟩
end
end Lp

set_option Elab.async false
set_option linter.all false
set_option maxRecDepth 100000
set_option maxHeartbeats 4000000
/-! L22: an own == beside a built-in thing; comparisons over data. Own work. -/
namespace Lp
open PySem PySem.Spec PyProof.Rows L2 LamX
def nbNames : List String := ["NoneType", "bool", "int", "str", "tuple", "list"]
theorem nb_sub {C : Addr} {K : Fg} : ∀ n ∈ nbNames, PySem.W.subIn K (.type n) (.ref C) = some false := by
  intro n hn
  have e : ∀ n ∈ nbNames, ∃ l, fastBuiltinMro n = some l ∧ l.all (fun v => match v with | .type _ => true | _ => false) = true := by
    intro n hn
    have hn' : n = "NoneType" ∨ n = "bool" ∨ n = "int" ∨ n = "str" ∨ n = "tuple" ∨ n = "list" := by simpa [nbNames] using hn
    rcases hn' with rfl | rfl | rfl | rfl | rfl | rfl
    · exact ⟨[.type "NoneType", .type "object"], by decide +kernel, rfl⟩
    · exact ⟨[.type "bool", .type "int", .type "object"], by decide +kernel, rfl⟩
    · exact ⟨[.type "int", .type "object"], by decide +kernel, rfl⟩
    · exact ⟨[.type "str", .type "object"], by decide +kernel, rfl⟩
    · exact ⟨[.type "tuple", .type "object"], by decide +kernel, rfl⟩
    · exact ⟨[.type "list", .type "object"], by decide +kernel, rfl⟩
  obtain ⟨l, e1, e2⟩ := e n hn
  show (fastBuiltinMro n).map (·.contains (.ref C)) = some false
  rw [e1]
  show some (l.contains (Value.ref C)) = some false
  congr 1
  rw [List.contains_eq_any_beq]
  apply Bool.eq_false_iff.mpr
  intro z
  obtain ⟨v, hv, hz⟩ := List.any_eq_true.mp z
  have := List.all_eq_true.mp e2 v hv
  rw [← eq_of_beq hz] at this
  cases this
/-- what a thing of a built-in type answers beside an instance -/
def rNiO (K : Fg) (C : Addr) : R2 := fun x y H Q => ∃ a dx fs n, x = .ref a ∧ H a = some (.ins C dx fs) ∧ TyB K H y n ∧ TyX K H y (.type n) ∧ n ∈ nbNames ∧ Q (.bl false) H
section
variable {X : Cx} {k : Nat} {C : Addr}
theorem op_niM (c : CmN X.prog X.w X.K X.mg X.base k C "__eq__") (ht : PySem.W.mroIn X.K C (.type "tuple") = some false) (hl : PySem.W.mroIn X.K C (.type "list") = some false) (hr : Room k X.A) : OpR X (compareOp .Eq) (rNiO X.K C) := by
  obtain ⟨f, fd, ps, hm, hb, hps, F⟩ := c.ex
  intro pins s σ H x y v u Q I rx ry h
  obtain ⟨a, dx, fs, n, rfl, ea, tb, tx, hn, q⟩ := h
  cases rx
  obtain ⟨mA, O, _⟩ := ins_get I.hok ea
  obtain ⟨od, J, _⟩ := O.look
  have hn7 : n ∈ tyNames := by
    have : n = "NoneType" ∨ n = "bool" ∨ n = "int" ∨ n = "str" ∨ n = "tuple" ∨ n = "list" := by simpa [nbNames] using hn
    rcases this with rfl | rfl | rfl | rfl | rfl | rfl <;> decide
  show wpAny _ _ (richCompare .Eq (.ref a) u) _ _ s
  refine LpO.rich_no (units0 hr) I.kIn J (tb.is I ry) (nb_sub n hn) ?_
  have one : wpAny (model X.prog X.w) X.A (call (.ref f) [.ref a, u]) (fun r s' => r = .notImplemented ∧ Inv X pins σ H s') X.xe s := by
    refine wpAny_call (codeAny_mono (F X.A X.stack s H ⟨[.ref a, u], []⟩ [.ref a, u] (.ref a) y n hr I.env0 (by
      have := hb s [.ref a, u] I.kIn (by rw [hps]; rfl)
      simpa using this) (.cons rfl (.cons ry .nil)) tx hn7) fun r s' hq => ?_)
    obtain ⟨e, ce⟩ := hq
    subst e
    obtain ⟨v, H', I', _, _, eH⟩ := I.after ce
    subst eH
    exact ⟨rfl, I'⟩
  unfold tryCompare
  refine wpAny_bind (PySem.W.ifBound_K I.kIn J hm.at_ hm.fn (wpAny_mono one (fun r s1 z => ?_) fun _ _ e => e))
  obtain ⟨er, I1⟩ := z
  subst er
  refine wpAny_pure ⟨rfl, ?_⟩
  obtain ⟨mA1, O1, _⟩ := ins_get I1.hok ea
  have ho := O1.obj
  have fin : wpAny (model X.prog X.w) X.A (isSame (.ref a) u) (fun v s3 => v = false ∧ EP X pins σ Q (.bool false) s3) X.xe s1 := by
    have done : (false = false ∧ EP X pins σ Q (.bool false) s1) := ⟨rfl, .bl false, H, I1, rfl, q⟩
    cases tb with
    | non => cases ry; exact wpAny_of_eq (rfl : isSame (.ref a) .none = pure false) (by exact done)
    | bl b => cases ry; exact wpAny_of_eq (rfl : isSame (.ref a) (.bool b) = pure false) (by exact done)
    | int i => obtain ⟨t, rfl⟩ := ry; exact wpAny_of_eq (rfl : isSame (.ref a) (.int i t) = pure false) (by exact done)
    | str z => obtain ⟨t, rfl⟩ := ry; exact wpAny_of_eq (rfl : isSame (.ref a) (.str z t) = pure false) (by exact done)
    | byt b => simp [nbNames] at hn
    | @lst p xs h =>
      cases ry
      obtain ⟨its, r, pl, _⟩ := I1.list h
      obtain ⟨o, ho2, hc2⟩ := pl.isList.typeIs
      refine wpAny_isSame_ref_other (fun z => ?_) ho ho2 (by intro z; cases z) done
      subst z
      rw [ho] at ho2
      cases ho2
      cases hc2
    | @tup p xs h =>
      cases ry
      obtain ⟨its, r, pl, _⟩ := I1.tuple h
      obtain ⟨o, ho2, hc2⟩ := pl.typeIs
      refine wpAny_isSame_ref_other (fun z => ?_) ho ho2 (by intro z; cases z) done
      subst z
      rw [ho] at ho2
      cases ho2
      cases hc2
    | dK h => simp [nbNames] at hn
  have st : s1.TypeIs u n := tb.is I1 ry
  cases tb with
  | non => cases ry; exact wpAny_tryCompare_declines st PySem.F.slot_NoneType_eq_refl (call_gives PySem.F.slot_NoneType_eq_refl st PySem.F.entry_NoneType_eq (PySem.F.args_NoneType_eq_2 _ _) (PySem.SeqAt.NoneType___eq___none_ref_0 a) ⟨rfl, rfl, fin⟩)
  | bl b => cases ry; exact wpAny_tryCompare_declines st PySem.F.slot_bool_eq_refl (GQ.call_here PySem.F.slot_bool_eq_refl st PySem.F.entry_int_eq (PySem.F.args_int_eq_2 _ _) (LpO.bool_no ho ⟨rfl, rfl, fin⟩))
  | int i => obtain ⟨t, rfl⟩ := ry; exact wpAny_tryCompare_declines st PySem.F.slot_int_eq_refl (GQ.call_here PySem.F.slot_int_eq_refl st PySem.F.entry_int_eq (PySem.F.args_int_eq_2 _ _) (LpO.int_no ho ⟨rfl, rfl, fin⟩))
  | str z => obtain ⟨t, rfl⟩ := ry; exact wpAny_tryCompare_declines st PySem.F.slot_str_eq_refl (GQ.call_here PySem.F.slot_str_eq_refl st PySem.F.entry_str_eq (PySem.F.args_str_eq_2 _ _) (LpO.str_no ho ⟨rfl, rfl, fin⟩))
  | byt b => simp [nbNames] at hn
  | @lst p xs h =>
    cases ry
    obtain ⟨its, r, pl, _⟩ := I1.list h
    obtain ⟨⟨cls, dd, dt, sl⟩, ho2, hc2, nn, hd2⟩ := pl.isList
    simp only at hc2 hd2
    subst hc2 hd2
    exact wpAny_tryCompare_declines st PySem.F.slot_list_eq_refl (GQ.call_here PySem.F.slot_list_eq_refl st PySem.F.entry_list_eq (PySem.F.args_list_eq_2 _ _) (LpO.list_no ho2 ho I1.kIn hl ⟨rfl, rfl, fin⟩))
  | @tup p xs h =>
    cases ry
    obtain ⟨its, r, pl, _⟩ := I1.tuple h
    obtain ⟨⟨cls, dd, dt, sl⟩, ho2, hc2, nn, hd2⟩ := pl
    simp only at hc2 hd2
    subst hc2 hd2
    exact wpAny_tryCompare_declines st PySem.F.slot_tuple_eq_refl (GQ.call_here PySem.F.slot_tuple_eq_refl st PySem.F.entry_tuple_eq (PySem.F.args_tuple_eq_2 _ _) (LpO.tup_no ho2 ho I1.kIn ht ⟨rfl, rfl, fin⟩))
  | dK h => simp [nbNames] at hn
end
/-! ### over data -/
section
variable {K : Fg} {T : Tbl} {E E' : XK} {X : XP} {S S' S0 J O O' : Ad} {H H1 H2 : Hp} {Γ Γ1 Γ' : List Ent} {σ σ' : L2.St}
variable {P : Dt → Prop} {ta tb te : TE} {F : FS}
/-- what a call of a spec at data gives -/
theorem sp_at {x y : V} {dx dy : Dt} (r : Rel K T S0 J Γ σ H) (rx : Rep K (Sx S0 Γ) H x dx) (ry : Rep K (Sx S0 Γ) H y dy) {G : Dt → Prop} (f : F [dx, dy] (fun r => G r.dt) noX) {Q : VK}
    (q : ∀ v d H2, G d → Rel K T S0 J Γ σ H2 → Nx T Non H H2 → Rep K (Sx S0 Γ) H2 v d → Q v H2) : spD K T F [x, y] H Q E' :=
  ⟨Sx S0 Γ, [dx, dy], _, noX, .cons rx (.cons ry .nil), r.live, r.tb, f, fun v rr H2 p n2 rv => q v rr.dt H2 p (r.nx n2) n2 rv.rep, .none⟩
theorem x_cmpO {Cl : Addr} (ha : EX K T E X ta Γ fun x => EX K T E X tb Γ fun y => ∃ fs gs, x = .obj Cl fs ∧ y = .obj Cl gs ∧ F [x, y] (fun r => P r.dt) noX) : EX K T E X (tOp (rCmpO Cl (spD K T F) E') ta tb) Γ P :=
  x_op (ha.imp fun x hx => hx.imp fun y ⟨fs, gs, ex, ey, f⟩ S0 J σ H v w rl rv rw' Q q => by
    subst ex ey
    obtain ⟨a, da, xs, e, _, e2, _⟩ := (show RepB K J (Sx S0 Γ) H v (.obj Cl fs) from .inl rv).obj
    obtain ⟨b, db, ys, e', _, e2', _⟩ := (show RepB K J (Sx S0 Γ) H w (.obj Cl gs) from .inl rw').obj
    subst e e'
    exact ⟨a, b, da, db, xs, ys, rfl, rfl, e2, e2', sp_at rl rv rw' f fun v d H2 p r2 n2 rv => q v d H2 p r2 (n2.mono fun _ z => z.elim) rv⟩)
theorem x_neO {Cl : Addr} (ha : EX K T E X ta Γ fun x => EX K T E X tb Γ fun y => ∃ fs gs, x = .obj Cl fs ∧ y = .obj Cl gs ∧ F [x, y] (fun r => ∃ c, r.dt = .bl c ∧ P (.bl (!c))) noX) : EX K T E X (tOp (rNeO Cl (spD K T F) E') ta tb) Γ P :=
  x_op (ha.imp fun x hx => hx.imp fun y ⟨fs, gs, ex, ey, f⟩ S0 J σ H v w rl rv rw' Q q => by
    subst ex ey
    obtain ⟨a, da, xs, e, _, e2, _⟩ := (show RepB K J (Sx S0 Γ) H v (.obj Cl fs) from .inl rv).obj
    obtain ⟨b, db, ys, e', _, e2', _⟩ := (show RepB K J (Sx S0 Γ) H w (.obj Cl gs) from .inl rw').obj
    subst e e'
    refine ⟨a, b, da, db, xs, ys, rfl, rfl, e2, e2', sp_at (G := fun d => ∃ c, d = .bl c ∧ P (.bl (!c))) rl rv rw' f fun v d H2 ⟨c, ed, p⟩ r2 n2 rv => ?_⟩
    subst ed
    cases rv
    exact ⟨c, rfl, q _ _ H2 p r2 (n2.mono fun _ z => z.elim) (.bl _)⟩)
theorem Rep.tyB {v : V} {d : Dt} {n : String} (h : Rep K S H v d) (e : tyD d = some n) : TyB K H v n := by
  cases h with
  | non => cases e; exact .non
  | bl b => cases e; exact .bl b
  | int i => cases e; exact .int i
  | str s => cases e; exact .str s
  | tup h _ => cases e; exact .tup h.sq
  | lst h _ => cases e; exact .lst h.sq
  | dct _ h _ => cases e; exact .dK h
  | obj _ _ _ => cases e
theorem x_eqNi {Cl : Addr} (ha : EX K T E X ta Γ fun x => EX K T E X tb Γ fun y => ∃ fs n, x = .obj Cl fs ∧ tyD y = some n ∧ n ∈ nbNames ∧ P (.bl false)) : EX K T E X (tOp (rNiO K Cl) ta tb) Γ P :=
  x_op (ha.imp fun x hx => hx.imp fun y ⟨fs, n, ex, ey, hn, p⟩ S0 J σ H v w rl rv rw' Q q => by
    subst ex
    obtain ⟨a, da, xs, e, _, e2, _⟩ := (show RepB K J (Sx S0 Γ) H v (.obj Cl fs) from .inl rv).obj
    subst e
    exact ⟨a, da, xs, n, rfl, e2, rw'.tyB ey, rw'.ty ey, hn, q _ _ H p rl .refl (.bl _)⟩)
/-! ### == whatever stands there: plain data, the same dict, own objects -/
def oEq (K : Fg) (C : Addr) (sp : Sp) (E : XK) : R2 := fun x y H Q => uEq K x y H Q ∨ rCmpO C sp E x y H Q
theorem x_oEq {Cl : Addr} (ha : EX K T E X ta Γ fun x => EX K T E X tb Γ fun y => Okd x ∧ Okd y ∧ P (.bl (eqD x y))) : EX K T E X (tOp (oEq K Cl (spD K T F) E') ta tb) Γ P :=
  x_op (ha.imp fun x hx => hx.imp fun y ⟨h1, h2, p⟩ S0 J σ H v w rl rv rw' Q q =>
    .inl (.inr (.inl ⟨toPy x, toPy y, rv.dp h1.1, rw'.dp h2.1, h1.2, h2.2, q _ _ H p rl .refl (.bl _)⟩)))
theorem x_oEqO {Cl : Addr} (ha : EX K T E X ta Γ fun x => EX K T E X tb Γ fun y => ∃ fs gs, x = .obj Cl fs ∧ y = .obj Cl gs ∧ F [x, y] (fun r => P r.dt) noX) : EX K T E X (tOp (oEq K Cl (spD K T F) E') ta tb) Γ P :=
  x_op (ha.imp fun x hx => hx.imp fun y ⟨fs, gs, ex, ey, f⟩ S0 J σ H v w rl rv rw' Q q => by
    subst ex ey
    obtain ⟨a, da, xs, e, _, e2, _⟩ := (show RepB K J (Sx S0 Γ) H v (.obj Cl fs) from .inl rv).obj
    obtain ⟨b, db, ys, e', _, e2', _⟩ := (show RepB K J (Sx S0 Γ) H w (.obj Cl gs) from .inl rw').obj
    subst e e'
    exact .inr ⟨a, b, da, db, xs, ys, rfl, rfl, e2, e2', sp_at rl rv rw' f fun v d H2 p r2 n2 rv => q v d H2 p r2 (n2.mono fun _ z => z.elim) rv⟩)
/-- two empty dicts -/
theorem x_oEqD0 {Cl : Addr} (ha : EX K T E X ta Γ fun x => EX K T E X tb Γ fun y => x = .dct [] ∧ y = .dct [] ∧ P (.bl true)) : EX K T E X (tOp (oEq K Cl (spD K T F) E') ta tb) Γ P :=
  x_op (ha.imp fun x hx => hx.imp fun y ⟨ex, ey, p⟩ S0 J σ H v w rl rv rw' Q q => by
    subst ex ey
    cases rv with
    | dct h1 h2 h3 =>
      cases h3
      cases rw' with
      | dct g1 g2 g3 =>
        cases g3
        exact .inl (.inr (.inr ⟨_, _, [], rfl, rfl, h2, g2, List.nodup_nil, fun _ z => (nomatch z), q _ _ H p rl .refl (.bl _)⟩)))
end
section
variable {X : Cx} {k : Nat} {C : Addr} {sp : Sp} {E : XK}
theorem op_oEq (c : Cm X.prog X.w X.K X.mg X.base k C "__eq__" sp []) (hr : Room k X.A) (hx : Passes (L2.CX X.prog X.w) X E) (hu : X.A.units + 64 < cLine) : OpR X (compareOp .Eq) (oEq X.K C sp E) := (op_uEq hu).or (op_cmpM rfl c hr hx)
end
end Lp

set_option Elab.async false
set_option linter.all false
set_option maxRecDepth 100000
set_option maxHeartbeats 4000000
/-! L23: a lambda whose body has names of its own (its comprehensions'); what is told of it. Own work. -/
namespace Lp
open PySem PySem.Spec PyProof.Rows L2 LamX
/-- M: the lambda's own names; none of them is a name of the def around it -/
structure LamT (Ns M : List Str) (sc scope : Scope) : Prop where
  kind : scope.kind = .function
  co : scope.isCoroutine = false
  gen : scope.isGenerator = false
  own : ∀ y ∈ scope.names, y.2 ≠ .cell ∧ (y.2 = .local → y.1 ∈ M)
  dis : ∀ y ∈ M, y ∉ Ns
  free : ∀ y ∈ scope.names, y.2 = .free → sc.names.lookup y.1 = some .cell ∨ sc.names.lookup y.1 = some .free
def lamTB (Ns M : List Str) (sc scope : Scope) : Bool := decide (scope.kind = .function) && (!scope.isCoroutine && (!scope.isGenerator && ((scope.names.all fun y => !decide (y.2 = .cell) && ((!decide (y.2 = .local) || decide (y.1 ∈ M)) && (!decide (y.2 = .free) || (decide (sc.names.lookup y.1 = some .cell) || decide (sc.names.lookup y.1 = some .free))))) && M.all fun y => !decide (y ∈ Ns))))
theorem lamT_by {Ns M : List Str} {sc scope : Scope} (h : lamTB Ns M sc scope = true) : LamT Ns M sc scope := by
  obtain ⟨h1, h⟩ := ba2 h
  obtain ⟨h2, h⟩ := ba2 h
  obtain ⟨h3, h⟩ := ba2 h
  obtain ⟨h4, h5⟩ := ba2 h
  have at_ := List.all_eq_true.mp h4
  refine ⟨of_decide_eq_true h1, by simpa using h2, by simpa using h3, fun y hy => ?_, fun y hy z => ?_, fun y hy e => ?_⟩
  · obtain ⟨z1, z⟩ := ba2 (at_ y hy)
    obtain ⟨z2, _⟩ := ba2 z
    refine ⟨by simpa using z1, fun e => ?_⟩
    rcases Bool.or_eq_true_iff.mp z2 with q | q
    · simp [e] at q
    · exact of_decide_eq_true q
  · have := List.all_eq_true.mp h5 y hy
    simp [z] at this
  · obtain ⟨_, z⟩ := ba2 (at_ y hy)
    obtain ⟨_, z⟩ := ba2 z
    rcases Bool.or_eq_true_iff.mp z with q | q
    · simp [e] at q
    · exact (Bool.or_eq_true_iff.mp q).imp of_decide_eq_true of_decide_eq_true
theorem LamT.has {Ns M : List Str} {X : Cx} {scope : Scope} (L : LamT Ns M X.env.scope scope) (ok : X.Ok) : ∀ y ∈ scope.names, y.2 = .free → ∃ c, X.env.cells.lookup y.1 = some c := fun y hy e => ok.has _ (L.free y hy e)
/-- the lambda's context, its own names behind the def's -/
def lamCy (X : Cx) (M : List Str) (A : Around) (outer : List Env) (s : Shared) (H : Hp) (E : XK) (scope : Scope) (f c' : Addr) : Cx := { lamCx X A outer s H E scope f c' with N := X.N ++ M }
abbrev more (σ : L2.St) (M : List Str) : L2.St := σ ++ List.replicate M.length none
section
variable {X : Cx} {pins : List (Addr × Obj)} {σ : L2.St} {H HZ : Hp} {s s1 : Shared} {M : List Str}
theorem lam_start3 {A : Around} {outer : List Env} {E : XK} {scope : Scope} {f c' : Addr} {h₁ : Heap} {tk : Nat} (I : Inv X pins σ H s) (L : LamT X.N M X.env.scope scope) (e0 : Env0 X.prog X.w X.K X.mg X.base A outer s1 HZ) (hd : A.handled = none)
    (un : Un (frs X.stack) [] H HZ s.heap s1.heap) (hns : h₁.Ns s1.heap.objs.size fun y => ([] : List (Str × Value)).reverse.lookup y) (kp : ∀ b o, s1.heap.get? b = some o → h₁.get? b = some o) :
    Inv (lamCy X M A outer s1 HZ E scope f c') [] (more σ M) HZ { s1 with heap := h₁, toks := tk } := by
  have has := L.has I.ok
  have same : ∀ {y c}, (cloFrom X.env.cells scope.names []).lookup y = some c → X.env.cells.lookup y = some c := fun {y c} e => by
    rcases cloFrom_mem (PySem.mem_of_lookup e) with hm | ⟨q1, q2⟩
    · cases hm
    · obtain ⟨c1, hc⟩ := has _ q1 rfl
      have hc : X.env.cells.lookup y = some c1 := hc
      have : c = c1 := by
        rw [q2, hc] <;> rfl
      rw [this]; exact hc
  have look : ∀ {y}, scope.names.lookup y = some .free → ∃ c, (cloFrom X.env.cells scope.names []).lookup y = some c := fun {y} hl =>
    mem_lookup (cloFrom_has (cells := X.env.cells) (acc := []) (PySem.mem_of_lookup hl : (y, NameKind.free) ∈ scope.names))
  have cellK : ∀ {c : Addr} {v : Option Value}, H c = none → s.heap.IsCell c v → h₁.IsCell c v := fun {c v} n ⟨o, ho, hd⟩ => by
    obtain ⟨sl, q⟩ := un.any ho n (by simp)
    exact ⟨_, kp _ _ q, hd⟩
  have noA : ∀ b : Addr, b ∉ (lamCy X M A outer s1 HZ E scope f c').ex := fun b z => absurd (show b ∈ ([] : List Addr) from z) (by simp)
  have ok : (lamCy X M A outer s1 HZ E scope f c').Ok := by
    refine ⟨e0.mod, L.kind, rfl, rfl, Nat.le_refl _, fun y z c e1 e2 => I.ok.inj y z c (same e1) (same e2), fun y hy => ?_, fun y c z _ => Bool.noConfusion (show false = true from z), fun _ => hd, Around.frames_deeper e0.frames, .inr ⟨rfl, rfl⟩, fun b z => absurd z (noA b), e0.bs, e0.bsz, fun b _ _ => noA b,
      fun b z => absurd z (noA b), e0.funs, e0.frf⟩
    have hy : scope.names.lookup y = some .cell ∨ scope.names.lookup y = some .free := hy
    rcases hy with hy | hy
    · exact absurd rfl (L.own _ (PySem.mem_of_lookup hy)).1
    · exact look hy
  refine ⟨ok, rfl, e0.bare, Un.kept kp, ⟨_, hns, fun i y v e1 e2 e3 => ?_⟩, fun y c e => ?_, e0.hok.fresh (Nat.le_refl _), fun y c e => ?_, fun q hq => absurd (show q ∈ ([] : List (Addr × Obj)) ++ [] from hq) (by simp), e0.hok.kept kp, ?_⟩
  · have e3 : Vis scope y := e3
    have e1 : (X.N ++ M)[i]? = some y := e1
    have hl := I.len
    by_cases hi : i < X.N.length
    · rw [List.getElem?_append_left hi] at e1
      rw [List.getElem?_append_left (by rw [hl]; exact hi)] at e2
      rcases e3 with k | k | k
      · exact absurd (List.mem_of_getElem? e1) (L.dis y ((L.own _ (PySem.mem_of_lookup k)).2 rfl))
      · exact absurd rfl (L.own _ (PySem.mem_of_lookup k)).1
      · obtain ⟨m, hn, hl⟩ := I.loc
        have fr := L.free _ (PySem.mem_of_lookup k) rfl
        obtain ⟨w', r, q⟩ := hl i y v e1 e2 (fr.elim (fun k => .inr (.inl k)) fun k => .inr (.inr k))
        obtain ⟨c2, h2⟩ := look k
        refine ⟨w', r, .inr ⟨.inr k, c2, h2, ?_⟩⟩
        rcases q with ⟨k', _⟩ | ⟨_, c3, e', z⟩
        · have k' : X.env.scope.names.lookup y = some .local := k'
          rcases fr with k2 | k2 <;> rw [show X.env.scope.names.lookup y = _ from k2] at k' <;> cases k'
        · rw [same h2] at e'
          cases e'
          exact cellK (I.freeC y _ (same h2)) z
    · rw [List.getElem?_append_right (by rw [hl]; omega)] at e2
      have := (List.mem_replicate.mp (List.mem_of_getElem? e2)).2
      cases this
  · obtain ⟨w', z⟩ := I.cell y c (same e)
    exact ⟨w', cellK (I.freeC y c (same e)) z⟩
  · obtain ⟨v, o, ho, hd⟩ := I.cell y c (same e)
    exact un.free c o ho (I.freeC y c (same e)) (by simp)
  · show (σ ++ List.replicate M.length none).length = (X.N ++ M).length
    rw [List.length_append, List.length_append, List.length_replicate, I.len]
theorem pe_act3 {CXg : CXT} {Eg : XK} {Ng : List Str} {qg : Str} {sg : Scope} {g f c' : Addr} {cdg pm ctv : Value} {params : Arguments} {body : Expr} {scope : Scope} {k i : Nat} {a : Str} {pn : List (Addr × Obj)} {xe : Value → Shared → Prop} {W : WX} {E : XK} {tb : TE} {p1 p2 : Pos}
    (I : Inv X pins σ H s) (L : LamT X.N M X.env.scope scope) (hf : s.heap.get? f = some (PySem.W.kla_obj "<lambda>" (X.env.qual ++ "<lambda>") params body scope (cloFrom X.env.cells scope.names []) pm c' ctv)) (hfn : H f = none) (hfr : f ∉ frs X.stack)
    (hbind : bindArgs (PySem.W.kla_fn "<lambda>" (X.env.qual ++ "<lambda>") params body scope (cloFrom X.env.cells scope.names []) pm (.ref c') ctv) ⟨[], []⟩ = pure [])
    (tk : Takes ((cxOf CXg X.prog X.w X.K X.mg X.base Ng qg sg g cdg X.A X.stack s H Eg).tr pn xe) W) (hW : ∀ cls d σ' H', E cls d H' → W cls d σ' H') (hr : Room (k + 1) (X.A.deeper (envOfC qg sg s.heap.objs.size g cdg)))
    (hbody : ∀ (A : Around) (outer : List Env) (s : Shared) (H : Hp), Room k (A.deeper (lamEnv X scope s.heap.objs.size f c')) → PE (lamCy X M A outer s H E scope f c') body tb)
    (hN : Ng[i]? = some a) (hv : Vis sg a) (hd : (a == ("__debug__" : Str)) = false := by decide) (hcd : (a == ("__classdict__" : Str)) = false := by decide) :
    PE ((cxOf CXg X.prog X.w X.K X.mg X.base Ng qg sg g cdg X.A X.stack s H Eg).tr pn xe) (.Call (.Name a p1) [] [] p2)
      (fun σZ HZ Q => σZ[i]? = some (some (.ref f)) ∧ HZ c' = some (CodeO c' (X.env.qual ++ "<lambda>")) ∧ tb (more σ M) HZ Q) := by
  refine ⟨fun pinsZ sZ σZ HZ Q IZ ⟨hs, hc, ht⟩ => ?_⟩
  refine wpAny_Call_Name_kw (thn ((pe_var (pos := p1) (i := i) hN hv hd hcd).run pinsZ sZ σZ HZ (fun v H1 => v = .ref f ∧ H1 = HZ) IZ ⟨.ref f, hs, rfl, rfl⟩) fun u s1 ⟨v, H1, I1, r1, ev, eH⟩ => ?_)
  subst ev
  rw [eH] at I1
  obtain rfl : u = Value.ref f := r1
  have of1 := I1.base.keep f _ hf hfn hfr (fun z => nomatch (show f ∈ ([] : List Addr) from z))
  refine PySem.W.callWith_F0 ⟨_, _, _, _, of1⟩ ?_
  have un : Un (frs X.stack) [] H HZ s.heap s1.heap := I1.base
  obtain ⟨⟨oc, vs, t, hoc, hdc, hvc⟩, _, _⟩ := I1.hok c' _ hc
  have rc : codeAny (model X.prog X.w) (X.A.deeper (envOfC qg sg s.heap.objs.size g cdg)) (.call (.ref f) ⟨[], []⟩) (CR (L2.CX X.prog X.w) (envOfC qg sg s.heap.objs.size g cdg :: X.stack) X.prog X.w HZ s1 Q E) s1 := by
    refine PySem.W.kla_callFunE hr.depth of1 rfl L.co L.gen rfl ⟨c', oc, vs, t, rfl, hoc, hdc, hvc⟩ ?_
    rw [hbind]
    refine wpAny_pure (wpAny_newFunctionEnv (fun y hy => (L.own y hy).1) (fun y hy => absurd hy (by simp)) (fun h₁ hns hsb => ⟨I1.nolimit.fresh _ hsb, ?_⟩) L.kind)
    show codeAny _ _ (.expr body (lamEnv X scope s1.heap.objs.size f c')) _ _
    have kp : ∀ b o, s1.heap.get? b = some o → h₁.get? b = some o := fun b o e => hsb.extBut b o (Nat.ne_of_lt (Heap.lt_size e)) (Heap.get?_push_of_some _ e)
    have J : Inv (lamCy X M (X.A.deeper (envOfC qg sg s.heap.objs.size g cdg)) (envOfC qg sg s.heap.objs.size g cdg :: X.stack) s1 HZ E scope f c') [] (more σ M) HZ { s1 with heap := h₁, toks := s1.toks + ([] : List (Str × Value)).length } :=
      lam_start3 I L I1.env0 hr.hd un hns kp
    refine PySem.W.kla_codeExpr (wpAny_mono ((hbody _ _ s1 HZ (hr.deeper _)).run [] _ _ HZ Q J ht) (fun v s' ⟨w', H', J', rv, q⟩ => ?_) fun e s' hq => hq)
    exact ⟨w', H', J'.os, J'.bare, J'.base, J'.hok, rv, q⟩
  have hx : Passes (L2.CX X.prog X.w) ((cxOf CXg X.prog X.w X.K X.mg X.base Ng qg sg g cdg X.A X.stack s H Eg).tr pn xe) E := passes_call tk hW
  refine wpAny_call (codeAny_mono rc fun r s' hq => ?_)
  cases r with
  | error e => exact hx pinsZ σZ HZ s1 e s' I1 hq
  | ok fl => cases fl with
    | ret u => exact I1.after hq
    | _ => exact False.elim hq
end
/-- m slots more for the lambda's own names -/
def tLamM (T : Tbl) (TT : (XK → Hp → VK → Prop) → Hp → VK → Prop) (M : List Str) (t : XK → TE) : TE := fun σ H Q => Tabs T H ∧ ∀ H1, ExtN H H1 → Tabs T H1 → TT (fun E H' Q' => t E (more σ M) H' Q') H1 Q
section
variable {X : Cx} {M : List Str}
theorem pe_lamD3 {T : Tbl} {TT : (XK → Hp → VK → Prop) → Hp → VK → Prop} {x a : Str} {g c P : Addr} {k : Nat} {pg : Arguments} {bg : List Stmt} {sg : Scope} {fd : FuncData} {Ng : List Str}
    {params : Arguments} {body : Expr} {scope : Scope} {t : XK → TE} {p lpos pos : Pos} (F : FunD X.K x x pg bg sg [] [] g fd) (hb : L2.Binds X.K fd [a] []) (hg : Gl X x) (hm : X.mg x = some (.ref g)) (Sg : FnScope Ng [a] sg) (hNg : Ng[0]? = some a) (hva : Vis sg a)
    (hG : ∀ cdv, GivesTo X Ng x sg g cdv bg a (X.env.qual ++ "<lambda>") TT)
    (TB : TabB X.base X.mg c P) (hcode : X.env.code = .ref c) (hmT : (P, X.env.qual ++ "<lambda>") ∈ T) (hu : ∀ p ∈ T, p.1 = P → p.2 = X.env.qual ++ "<lambda>") (hr : Room (k + 2) X.A) (L : LamT X.N M X.env.scope scope) (hdef : defaultsOf params X.env = ([], []))
    (hbind : ∀ (q : Str) (cl : List (Str × Addr)) (pm cv ctv : Value), bindArgs (PySem.W.kla_fn "<lambda>" q params body scope cl pm cv ctv) ⟨[], []⟩ = pure [])
    (hbody : ∀ (A : Around) (outer : List Env) (s : Shared) (H : Hp) (E : XK) (f c' : Addr), Room k (A.deeper (lamEnv X scope s.heap.objs.size f c')) → PE (lamCy X M A outer s H E scope f c') body (t E))
    (hdb : (x == ("__debug__" : Str)) = false := by decide) (hd : (a == ("__debug__" : Str)) = false := by decide) (hcd : (a == ("__classdict__" : Str)) = false := by decide) :
    PE X (.Call (.Name x p) [.Lambda params body scope lpos] [] pos) (tLamM T TT M t) := by
  obtain ⟨oc, od, dV, kV, doc, pm, an, cdv, ct, osl, rfl, lk, hcg, _, _⟩ := F.ex
  refine ⟨fun pins s σ H Q I ⟨hT, h⟩ => ?_⟩
  refine wpAny_Call_Name_kw (ld_glob I hg hm ?_ hdb)
  refine PySem.W.callWith_K (h₀ := X.base) I.ok.mod.kin F.kp ?_ (by rfl) (by rfl)
  show wpAny _ _ (spliced ((false, eval (.Lambda params body scope lpos) X.env) :: backTo pos (starEach [] X.env))) _ _ s
  refine Calls.spliced_cons (lam_make2 I TB hcode hmT hu hT hdef (L.has I.ok) fun f c' pm' ctv H1 s' I1 eN T1 hf hfn hfr hco => Calls.spliced_nil ⟨I1.kIn, ?_⟩)
  have rc : codeAny (model X.prog X.w) X.A (.call (.ref g) ⟨[.ref f], []⟩) (CR C8.CX0 X.stack X.prog X.w H1 s' Q C8.E0) s' := by
    refine run_ofS (N := Ng) (ps := [a]) (us := [.ref f]) (vs := [.ref f]) lk hcg Sg hr I1.env0 (hb s' [.ref f] I1.kIn rfl) (.cons rfl .nil) rfl fun hr' => ?_
    obtain ⟨t', ht', hq'⟩ := hG cdv f c' s' H1 Q (fun E H' Q' => t E (more σ M) H' Q') (fun W pn xe E p1 p2 tk hW => pe_act3 (i := 0) I1 L hf hfn hfr (hbind _ _ _ _ _) tk hW hr' (fun A outer s H hr2 => hbody A outer s H E f c' hr2) hNg hva hd hcd) hco (h H1 eN T1)
    exact ⟨t', ht'.nox, hq'⟩
  refine wpAny_call (codeAny_mono rc fun r s2 hq => ?_)
  cases r with
  | error e => exact (show False from hq).elim
  | ok fl => cases fl with
    | ret u => exact I1.after hq
    | _ => exact False.elim hq
end
end Lp

set_option Elab.async false
set_option linter.all false
set_option maxRecDepth 100000
set_option maxHeartbeats 4000000
/-! L24: what is told of a lambda with names of its own, over data; some more ways. Own work. -/
namespace Lp
open PySem PySem.Spec PyProof.Rows L2 LamX
abbrev moreG (Γ : List Ent) (M : List Str) : List Ent := Γ ++ List.replicate M.length .emp
section
variable {K : Fg} {T : Tbl} {E E' : XK} {X : XP} {S S' S0 J O O' : Ad} {H H1 H2 : Hp} {Γ Γ1 Γ' : List Ent} {σ σ' : L2.St} {M : List Str}
variable {N N' : List Ent → Prop} {R : Rt → List Ent → Prop} {B C : List Ent → Prop} {ts tu : TS} {te ta tb : TE} {tt : TT} {tr : TA} {P : Dt → Prop} {A : List Dt → Prop} {ti : TI} {F : FS}
theorem owned_more : owned (moreG Γ M) = owned Γ := by
  unfold owned moreG
  rw [List.flatMap_append]
  have : (List.replicate M.length Ent.emp).flatMap ownA = [] := by
    rw [List.flatMap_eq_nil_iff]
    intro e he
    rw [(List.mem_replicate.mp he).2]; rfl
  rw [this, List.append_nil]
theorem Rel.more (r : Rel K T S0 J Γ σ H) : Rel K T S0 J (moreG Γ M) (more σ M) H := by
  refine ⟨r.js, r.jr, r.wf, r.tb, by rw [owned_more]; exact r.nd, by rw [owned_more]; exact r.os, by simp [r.len], fun i o e h1 h2 => ?_⟩
  rw [Sx.eq owned_more]
  have hl := r.len
  by_cases hi : i < Γ.length
  · rw [List.getElem?_append_left hi] at h2
    rw [List.getElem?_append_left (by rw [hl]; exact hi)] at h1
    exact r.at_ i o e h1 h2
  · rw [List.getElem?_append_right (by omega)] at h2
    rw [(List.mem_replicate.mp (List.mem_of_getElem? h2)).2]
    trivial
theorem Rel.less' (hl : σ.length = Γ.length) (r : Rel K T S0 J (moreG Γ M) (Lp.more σ M) H) : Rel K T S0 J Γ σ H := by
  have nd := r.nd
  have os := r.os
  rw [owned_more] at nd os
  refine ⟨r.js, r.jr, r.wf, r.tb, nd, os, hl, fun i o e h1 h2 => ?_⟩
  have hi : i < Γ.length := (List.getElem?_eq_some_iff.mp h2).1
  have q := r.at_ i o e (by rw [List.getElem?_append_left (by rw [hl]; exact hi)]; exact h1) (by rw [List.getElem?_append_left hi]; exact h2)
  rw [Sx.eq owned_more] at q
  exact q
theorem told_core {w : Str} {L : List HCl} {Pt : Dt → Prop} {X' : XP} {t : XK → TE} (h : ∀ E', EX K T E' X' (t E') (moreG Γ M) Pt) (hok : ∀ d, Pt d → P (.tup [.str w, d])) (hx : ∀ Cl fs, X' Cl fs → HX K P L Cl fs)
    (ow : owned Γ = [] ∨ X' = noX) : EX K T E X (tLamM T (TTh K w L) M t) Γ P := fun S0 J σ H r xo Q q => by
  refine ⟨r.tb, fun H1 e tb => ?_⟩
  have n1 : ∀ {S : Ad}, Nx T S H H1 := fun {S} => .of_ext e tb
  have r1 := r.nx n1
  have fin : ∀ {H2 : Hp} {v : V} {d : Dt} {nm : Str}, Rel K T S0 J Γ σ H2 → Nx T J H H2 → Rep K (Sx S0 Γ) H2 v d → P (.tup [.str nm, d]) → ∀ p, H2 p = none → Q (.ref p) (upd H2 p (.tup [.str nm, v])) := fun {H2 v d nm} r2 n2 rv pp p hp => by
    have n3 : ∀ {S : Ad}, Nx T S H2 (upd H2 p (.tup [.str nm, v])) := fun {S} => .new hp noT_tup
    exact q _ _ _ pp (r2.nx n3) (n2.trans n3) (new_pair hp (r2.fresh (.of hp)) rv)
  refine h (hCh K Q L) S0 J (Lp.more σ M) H1 r1.more (fun Cl fs xs dx H2 x' n2 fd ed rf jz => ?_) _ fun v d H2 p r2 n2 rv => ⟨pair_size, fin (r2.less' r.len) (n1.trans n2) (by rw [Sx.eq owned_more] at rv; exact rv) (hok d p)⟩
  rcases ow with ow | ow
  · have sx0 : Sx S0 Γ = S0 := by
      funext a
      unfold Sx
      rw [ow]
      simp
    have r2 : Rel K T S0 J Γ σ H2 := r1.nxJJ n2 jz
    have n12 : Nx T J H H2 := n1.trans n2
    have go : ∀ L : List HCl, HX K P L Cl fs → hCh K Q L (.ref Cl) (some dx) H2 := fun L => by
      induction L with
      | nil => exact fun z => z.elim
      | cons c L ih =>
        obtain ⟨C', nm, fo⟩ := c
        intro ⟨b, hb, hy, hn⟩
        refine ⟨b, hb, fun e => ?_, fun e => ih (hn e)⟩
        have hy := hy e
        cases fo with
        | some f =>
          obtain ⟨ec, d, hl, pp⟩ := hy
          obtain ⟨v, hv, rv⟩ := rf.lookup hl
          exact ⟨by rw [ec], dx, xs, v, rfl, ed, hv, fin r2 n12 (by rw [sx0]; exact rv) pp⟩
        | none => exact fin r2 n12 .non hy
    exact go L (hx Cl fs x')
  · rw [ow] at x'; exact x'.elim
/-- told: nothing is raised -/
theorem x_toldP {w : Str} {L : List HCl} {t : XK → TE} (h : ∀ E', EX K T E' noX (t E') (moreG Γ M) fun d => P (.tup [.str w, d])) : EX K T E X (tLamM T (TTh K w L) M t) Γ P :=
  told_core (X' := noX) (Pt := fun d => P (.tup [.str w, d])) h (fun d p => p) (fun _ _ z => z.elim) (.inr rfl)
/-- told, or refused -/
theorem x_toldX {w : Str} {L : List HCl} {X' : XP} {t : XK → TE} (ow : owned Γ = []) (hx : ∀ Cl fs, X' Cl fs → HX K P L Cl fs) (h : ∀ E', EX K T E' X' (t E') (moreG Γ M) fun d => P (.tup [.str w, d])) : EX K T E X (tLamM T (TTh K w L) M t) Γ P :=
  told_core (Pt := fun d => P (.tup [.str w, d])) h (fun d p => p) hx (.inl ow)
/-! ### tuples cut, turned about -/
theorem x_slT {tl th : TO} (ha : EX K T E X ta Γ fun x => EO K T E X tl Γ fun lo => EO K T E X th Γ fun hi => ∃ ds, x = .tup ds ∧ P (.tup (cutD ds lo hi))) : EX K T E X (tSl (uSl K) ta tl th) Γ P := fun S0 J σ H rl xo Q q =>
  ha S0 J σ H rl xo _ fun v x H2 hb r2 n2 rv => hb S0 J σ H2 r2 (xo.nx n2) _ fun lo H3 hc r3 n3 => hc S0 J σ H3 r3 (xo.nx (n2.trans n3)) _ fun hi H4 ⟨ds, ex, p⟩ r4 n4 => by
    subst ex
    have n24 := (n2.trans n3).trans n4
    have rv4 := (rv.nx (r2.jS n3)).nx (r3.jS n4)
    cases rv4 with
    | @tup a xs _ hs rr =>
      refine .inr (.inl ⟨a, xs, rfl, hs.sq, fun hw => ?_, fun hw l hl => ?_⟩)
      · have e : cutD ds lo hi = ds := by
          unfold cutD
          rw [← rr.len, hw.1, hw.2, rr.len]
          simp
        rw [e] at p
        exact q _ _ H4 p r4 n24 (.tup hs rr)
      · have n5 : ∀ {S : Ad}, Nx T S H4 (upd H4 l (.tup (cutV xs lo hi))) := fun {S} => .new hl noT_tup
        exact q _ _ _ p (r4.nx n5) (n24.trans n5) (.tup (.inl ⟨r4.fresh (.of hl), .inl upd_same⟩) ((rr.cut lo hi).nx n5))
/-- a text cut -/
def cutSt (z : Str) (lo hi : Option Int) : Str := ⟨(((z.cps.toList.drop (HT.sIx z.cps.size 0 lo)).take (HT.sIx z.cps.size z.cps.size hi - HT.sIx z.cps.size 0 lo))).toArray⟩
end
end Lp

set_option Elab.async false
set_option linter.all false
set_option maxRecDepth 100000
set_option maxHeartbeats 4000000
/-! L25: a tuple turned about; index, upper; makers by keyword. Own work. -/
namespace LpT
open PySem PySem.Spec PyProof.Rows L2
section
variable {prog : Program} {w : World} {A : Around} {E : Value → Shared → Prop} {s : Shared}
theorem adjust_back (n : Nat) : Builtin.Slice.sliceAdjust none none (-1) (n : Int) = ((n : Int) - 1, -1) := by
  unfold Builtin.Slice.sliceAdjust
  simp
theorem places_back (n : Nat) : Builtin.Slice.slicePlaces ((n : Int) - 1) (-1) (-1) = n := by
  unfold Builtin.Slice.slicePlaces
  have h1 : ¬ ((-1 : Int) > 0) := by decide
  have h2 : (-(-1) : Int) = 1 := by decide
  simp only [h1, if_false, h2, Int.ediv_one]
  split <;> omega
theorem fm_congr {α β : Type} {f g : α → Option β} : ∀ {l : List α}, (∀ a ∈ l, f a = g a) → l.filterMap f = l.filterMap g
  | [], _ => rfl
  | x :: l, h => by rw [List.filterMap_cons, List.filterMap_cons, h x (by simp), fm_congr fun a ha => h a (by simp [ha])]
theorem pick_back (xs : Array Value) : ((List.range xs.size).filterMap fun (k : Nat) => xs[((xs.size : Int) - 1 + (k : Int) * (-1)).toNat]?).toArray = xs.toList.reverse.toArray := by
  have e1 : ((List.range xs.size).filterMap fun (k : Nat) => xs[((xs.size : Int) - 1 + (k : Int) * (-1)).toNat]?) = ((List.range xs.size).map fun k => xs.size - 1 - k).filterMap fun k => xs[k]? := by
    rw [List.filterMap_map]
    refine fm_congr fun k hk => ?_
    have hk : k < xs.size := List.mem_range.mp hk
    show _ = xs[xs.size - 1 - k]?
    congr 1
    omega
  rw [e1, PySem.W.krv_range, List.filterMap_reverse, PySem.W.krv_all]
theorem applied_back {sl : Addr} {vs : Value} {n : Nat} {Q : Int × Int × Nat → Shared → Prop} (hs : s.heap.IsSliceOf sl .none .none vs) (ps : IsPart vs (some (-1)))
    (h : Q ((n : Int) - 1, -1, n) s) : wpAny (model prog w) A (Builtin.Slice.sliceApplied (.ref sl) (pure (n : Int))) Q E s := by
  obtain ⟨os, hos, hcs, hds⟩ := id hs
  unfold Builtin.Slice.sliceApplied Builtin.Slice.sliceFields
  refine wpAny_bind (wpAny_bind (wpAny_field hos hds (x := .none) rfl (wpAny_bind (wpAny_field hos hds (x := .none) rfl (wpAny_bind (wpAny_field hos hds (x := vs) rfl (wpAny_pure ?_)))))))
  refine wpAny_bind (HT.slicePart_ ps ?_)
  show wpAny _ _ (if ((-1 : Int) == 0) = true then _ else _) _ _ s
  rw [if_neg (by decide)]
  refine wpAny_bind (slicePart_none (wpAny_bind (slicePart_none (wpAny_bind (wpAny_pure ?_)))))
  show wpAny _ _ (match Builtin.Slice.sliceAdjust none none (-1) (n : Int) with | (lo, hi) => pure (lo, (-1 : Int), Builtin.Slice.slicePlaces lo hi (-1))) _ _ s
  rw [adjust_back n]
  show wpAny _ _ (pure ((n : Int) - 1, (-1 : Int), Builtin.Slice.slicePlaces ((n : Int) - 1) (-1) (-1))) _ _ s
  rw [places_back]
  exact wpAny_pure h
theorem getItem_back {t sl : Addr} {items : Array Value} {vs : Value} {Q : Value → Shared → Prop} (ht : IsTup s.heap t items) (hs : s.heap.IsSliceOf sl .none .none vs) (ps : IsPart vs (some (-1)))
    (h : Q (.ref s.heap.objs.size) { s with heap := s.heap.push { cls := .type "tuple", data := .seq items.toList.reverse.toArray } })
    (hsz : items.size ≤ sizeLine) : wpAny (model prog w) A (getItem (.ref t) (.ref sl)) Q E s := by
  have fits : sizeOk (.seq items.toList.reverse.toArray) := by
    show items.toList.reverse.toArray.size ≤ sizeLine
    rw [List.size_toArray, List.length_reverse, Array.length_toList]
    exact hsz
  obtain ⟨os, hos, hcs, hds⟩ := id hs
  have hTs : s.TypeIs (.ref sl) "slice" := ⟨os, hos, hcs⟩
  unfold getItem
  try with_reducible refine wpAny_holding ?_
  first | refine wpAny_bind (wpAny_pure ?_) | skip
  refine wpAny_bind (wpAny_sequenceKey ht.typeIs (by decide) ?_)
  refine wpAny_bind (wpAny_callSpecial?_slot (name := Str.ofString "__getitem__") ht.typeIs PyProof.Rows.slot_tuple_getitem
    (wpAny_call_entry PyProof.Rows.slot_tuple_getitem ht.typeIs PyProof.Rows.entry_tuple_getitem ?_ (PyProof.Rows.args_tuple_getitem _ _)))
  show wpAny _ _ (Builtin.Tuple.tupleItemsOf (.ref t) >>= _) _ _ s
  refine wpAny_bind (tupleItemsOf_ ht (wpAny_bind (wpAny_typeOf hTs ?_)))
  rw [if_pos (by decide)]
  refine wpAny_bind (applied_back (n := items.size) hs ps ?_)
  have hno : ¬ ((((items.size : Int) - 1) == 0 && (-1 : Int) == 1 && items.size == items.size) = true) := by
    intro q
    rw [Bool.and_eq_true, Bool.and_eq_true] at q
    exact absurd (eq_of_beq q.1.2) (by decide)
  show wpAny _ _ (if (((items.size : Int) - 1) == 0 && (-1 : Int) == 1 && items.size == items.size) = true then _ else _) _ _ s
  rw [if_neg hno, pick_back]
  first
    | exact wpAny_bind (m := Builtin.Tuple.tupleExact _) (wpAny_newObj_type (wpAny_pure ⟨_, rfl, wpAny_pure h⟩) fits)
    | exact wpAny_bind (m := Builtin.Tuple.tupleExact _) (wpAny_newObj_type (wpAny_bind (wpAny_pure (wpAny_pure ⟨_, rfl, wpAny_pure h⟩))) fits)
    | exact wpAny_bind (wpAny_bind (m := Builtin.Tuple.tupleExact _) (wpAny_newObj_type (wpAny_pure (wpAny_pure ⟨_, rfl, wpAny_pure h⟩)) fits))
    | exact wpAny_bind (wpAny_bind (m := Builtin.Tuple.tupleExact _) (wpAny_newObj_type (wpAny_pure ⟨_, rfl, wpAny_pure h⟩) fits))
end
end LpT
namespace Lp
open PySem PySem.Spec PyProof.Rows L2 LamX
def tRevT (K : Fg) (te : TE) : TE := fun σ H Q => te σ H fun x H1 => ∃ a xs, x = .ref a ∧ SqT K H1 a xs ∧ ∀ p, H1 p = none → Q (.ref p) (upd H1 p (.tup xs.reverse))
section
variable {X : Cx}
theorem pe_revT {e : Expr} {te : TE} {k : Nat} {p1 p2 p3 pos : Pos} (he : PE X e te) : PE X (.Subscript e (.Slice none none (some (.UnaryOp .USub (.Constant (.int 1) k p1) p2)) p3) pos) (tRevT X.K te) := by
  refine ⟨fun pins s σ H Q I h => ?_⟩
  refine Subscript_ (thn (he.run pins s σ H _ I h) fun v s1 ⟨x, H1, I1, r1, a, xs, ex, hx, q⟩ => ?_)
  subst ex
  cases r1
  have hst : PO X (some (.UnaryOp .USub (.Constant (.int 1) k p1) p2)) (tPart (tUn (rU fun i => .int (-i)) (tC (.int 1)))) := po_some (pe_un un_neg pe_int)
  refine wpAny_Slice (thn (po_none.run pins s1 σ H1 (fun o H2 => o = none ∧ H2 = H1) I1 ⟨rfl, rfl⟩) fun vl s2 ⟨l, H2, I2, pl, el, e2⟩ => ?_)
  subst el e2
  refine thn (po_none.run pins s2 σ H2 (fun o H3 => o = none ∧ H3 = H2) I2 ⟨rfl, rfl⟩) fun vu s3 ⟨u, H3, I3, pu, eu, e3⟩ => ?_
  subst eu e3
  refine thn (hst.run pins s3 σ H3 (fun o H4 => o = some (-1) ∧ H4 = H3) I3 ⟨1, rfl, -1, rfl, rfl, rfl⟩) fun vs s4 ⟨o, H4, I4, ps, eo, e4⟩ => ?_
  subst eo e4
  cases pl
  cases pu
  have I5 : Inv X pins σ H4 { s4 with heap := s4.heap.push { cls := .type "slice", data := .fields #[.none, .none, vs] } } := I4.kept (t' := s4.toks) fun b ob q => Heap.get?_push_of_some _ q
  obtain ⟨its, r, ht, hz⟩ := I5.tuple hx
  have hlen := r.length
  show wpAny (model X.prog X.w) X.A (subscriptTail e (.Slice none none (some (.UnaryOp .USub (.Constant (.int 1) k p1) p2)) p3) (.ref a) (.ref s4.heap.objs.size)) (EP X pins σ Q) X.xe { s4 with heap := s4.heap.push { cls := .type "slice", data := .fields #[.none, .none, vs] } }
  refine tail_any (ops := [.ref a, .ref s4.heap.objs.size]) ht.typeIs (PyProof.Rows.slot_tuple_getitem.lookup) ?_ (by with_unfolding_all rfl)
  refine LpT.getItem_back ht (Heap.IsSliceOf.new _ _ _ vs) ps ?_ (by rw [List.size_toArray]; omega)
  have e : its.toArray.toList.reverse.toArray = its.reverse.toArray := by simp
  rw [e]
  refine ⟨.ref _, _, I5.laid (t' := s4.toks) (o := .tup xs.reverse) (fun b ob q => Heap.get?_push_of_some _ q) (Nat.le_refl _) ?_, rfl, q _ (I5.hok.fresh (Nat.le_refl _))⟩
  exact ⟨by rw [List.length_reverse]; exact hz, _, r.reverse, IsTup.new _ _⟩
end
end Lp

set_option Elab.async false
set_option linter.all false
set_option maxRecDepth 100000
set_option maxHeartbeats 4000000
/-! L26: facts by place of classes; makers by keyword; constants; kinds by their names; small helps. Own work. -/
namespace Lp
open PySem PySem.Spec PyProof.Rows L2 LamX
section
variable {fa : List He.Fa} {fn : List He.DefD} {tf : List He.Defn} {ex : Fg → Bool} {w : World} {K : Fg} {mg : Str → Option Value} {base : Heap} (T : HdF fa fn tf ex w K mg base)
include T
theorem HdF.cls (i : Nat) {x : Str} (h : fa[i]? = some (.cls x) := by rfl) : Cls K (He.ga K x) := by
  obtain ⟨h0, X, G, c⟩ := T.ex
  exact He.cls_ok (c.t.d.fact i h)
theorem HdF.noat (i : Nat) {x f : Str} (h : fa[i]? = some (.noat x f) := by rfl) : NoAttr K (He.ga K x) f := by
  obtain ⟨h0, X, G, c⟩ := T.ex
  exact He.noat_ok (c.t.d.fact i h)
theorem HdF.meth (i : Nat) {x m : Str} (h : fa[i]? = some (.meth x m) := by rfl) : Meth K (He.ga K x) m (He.ma K (He.ga K x) m) := by
  obtain ⟨h0, X, G, c⟩ := T.ex
  exact He.meth_ok (c.t.d.fact i h)
theorem HdF.mkr (i : Nat) {x : Str} (h : fa[i]? = some (.mkr x) := by rfl) : Mk K (He.ga K x) (He.ma K (He.ga K x) "__init__") := by
  obtain ⟨h0, X, G, c⟩ := T.ex
  exact He.mkr_ok (c.t.d.fact i h)
end
/-! ### makers by keyword -/
structure CkK (P : Program) (w : World) (K : Fg) (mg : Str → Option Value) (base : Heap) (k : Nat) (x : Str) (C : Addr) (sp : Sp) (ks : List Str) : Prop where
  ex : ∃ (f : Addr) (fd : FuncData) (ps : List Str), Mk K C f ∧ FnOk P w K mg base (L2.CX P w) k f fd ps sp ∧ mg x = some (.ref C) ∧ KBn K fd ps 1 ks (fun us ws => us ++ ws) (fun vs zs => vs ++ zs)
theorem kbn_of {K : Fg} {x qual : Str} {params : Arguments} {body : List Stmt} {scope : Scope} {kws : List (Str × V)} {f : Addr} {fd : FuncData} {ps ks : List Str} {n : Nat} (F : FunD K x qual params body scope [] kws f fd)
    (h : ∀ (kV doc pm : Value) (an : Option Addr) (cc : Value × Value) (us ws : List Value), us.length = n → ws.length = ks.length → bindArgs (PySem.W.fnOf x qual params body scope .none kV doc pm an cc.1 cc.2) ⟨us, ks.zip ws⟩ = pure (ps.zip (us ++ ws))) :
    KBn K fd ps n ks (fun us ws => us ++ ws) (fun vs zs => vs ++ zs) := by
  obtain ⟨oc, od, dV, kV, doc, pm, an, cdv, ct, osl, rfl, lk, hcd, hD, hK⟩ := F.ex
  rcases hD with ⟨_, rfl⟩ | ⟨e, _⟩
  · exact ⟨fun s us ws X l1 l2 => .of_eq (h kV doc pm an (cdv, ct) us ws l1 l2), fun r1 r2 => r1.append r2⟩
  · exact absurd rfl e
section
variable {X : Cx} {k j : Nat} {C : Addr} {x : Str} {sp : Sp} {p pos : Pos} {kws : List Keyword} {tk : TA} {E : XK} {ks : List Str}
theorem pe_ckK (c : CkK X.prog X.w X.K X.mg X.base k x C sp ks) (hr : Room j X.A) (hk : k + 1 ≤ j) (hx : Passes (L2.CX X.prog X.w) X E) (hg : Gl X x) (hkw : PK X kws tk)
    (hall : (backToKw pos (keywordEach kws X.env)).all (·.1.isSome) = true := by rfl) (hks : (backToKw pos (keywordEach kws X.env)).filterMap (·.1) = ks := by rfl) (hdb : (x == ("__debug__" : Str)) = false := by decide)
    (hpl : ((backTo pos (starEach [] X.env)).any (·.1) || (backToKw pos (keywordEach kws X.env)).any (·.1.isNone)) = false := by rfl) :
    PE X (.Call (.Name x p) [] kws pos) (tMakeK C 0 ks.length sp (fun vs zs => vs ++ zs) E tNil tk) := by
  obtain ⟨f, fd, ps, M, F, hm, b⟩ := c.ex
  exact pe_makeK0 M F (hr.mono hk) hg hm b hx hkw hall hks hdb hpl
end
section
variable {K : Fg} {T : Tbl} {E E' : XK} {X : XP} {S S' S0 J O O' : Ad} {H H1 H2 : Hp} {Γ Γ1 Γ' : List Ent} {σ σ' : L2.St}
variable {N N' : List Ent → Prop} {R : Rt → List Ent → Prop} {B C : List Ent → Prop} {ts tu : TS} {te ta tb : TE} {tt : TT} {tr : TA} {P : Dt → Prop} {A : List Dt → Prop} {ti : TI} {F : FS} {FI : IS}
theorem x_makeKP {Cl : Addr} {n : Nat} (h : EA K T E X tr Γ fun ds => ds.length = n ∧ FI ds (fun fs => P (.obj Cl fs)) noX) : EX K T E X (tMakeK Cl 0 n (spI K T Cl FI) (fun vs zs => vs ++ zs) E' tNil tr) Γ P := fun S0 J σ H r xo Q q =>
  h S0 J σ H r xo _ fun vs ds H1 ⟨hn, f⟩ r1 n1 rl => ⟨rfl, by rw [rl.len]; exact hn, fun x dx hx hd hne => by
    have na : ∀ {S : Ad}, Nx T S H1 (upd H1 dx (.own x)) := fun {S} => .new hd noT_own
    have hx1 : upd H1 dx (.own x) x = none := by rw [upd_ne (Ne.symm hne)]; exact hx
    have nb : ∀ {S : Ad}, Nx T S (upd H1 dx (.own x)) (upd (upd H1 dx (.own x)) x (.ins Cl dx [])) := fun {S} => .new hx1 noT_ins
    have nn : ∀ {S : Ad}, Nx T S H1 (upd (upd H1 dx (.own x)) x (.ins Cl dx [])) := fun {S} => na.trans nb
    have r2 := r1.nx nn
    have hfx : Fre H1 x := .of hx
    refine ⟨Sx S0 Γ, x, dx, vs, ds, _, noX, rfl, r1.fresh hfx, upd_same, (rl.sub (Rj.new hfx)).nx nn, r2.live, r2.tb, f, fun H2 xs fs p n2 e rf => ⟨rfl, ?_⟩, .none⟩
    have n3 : ∀ {S : Ad}, Nx T S H1 H2 := fun {S} => Nx.cut nn n2 hx
    exact q _ _ H2 p (r1.nx n3) (n1.trans n3) (.obj (r1.fresh hfx) e (rf.sub (.of Rj.sub)))⟩
end
/-! ### a constant tuple of texts -/
def strIs (v : Value) (s : Str) : Bool := match v with
  | .str z _ => decide (z = s)
  | _ => false
def strsAre : List Value → List Str → Bool
  | [], [] => true
  | v :: vs, s :: ss => strIs v s && strsAre vs ss
  | _, _ => false
theorem strsAre_ok : ∀ {vs : List Value} {ss : List Str}, strsAre vs ss = true → Vals (ss.map V.str) vs
  | [], [], _ => .nil
  | v :: vs, s :: ss, h => by
    obtain ⟨h1, h2⟩ := ba2 h
    refine .cons ?_ (strsAre_ok h2)
    cases v <;> first | (exact ⟨_, by rw [of_decide_eq_true h1]⟩) | cases h1
  | [], _ :: _, h => by cases h
  | _ :: _, [], h => by cases h
/-- at a stands the written tuple of these texts -/
structure TupS (K : Fg) (a : Addr) (zs : List Str) : Prop where
  ex : ∃ (o : Obj) (its : Array Value) (n : Nat), K.lookup a = some o ∧ o.cls = .type "tuple" ∧ o.dict = none ∧ o.data = .seq its n ∧ its.size ≤ sizeLine ∧ Vals (zs.map V.str) its.toList
def tupSB (K : Fg) (a : Addr) (zs : List Str) : Bool := match K.lookup a with
  | some ⟨.type t, none, .seq its _, _⟩ => decide (t = "tuple") && (decide (its.size ≤ 1000) && strsAre its.toList zs)
  | _ => false
theorem tupSB_ok {K : Fg} {a : Addr} {zs : List Str} (h : tupSB K a zs = true) : TupS K a zs := by
  unfold tupSB at h
  split at h
  · rename_i t its n sl e
    obtain ⟨h1, h⟩ := ba2 h
    obtain ⟨h2, h3⟩ := ba2 h
    have h2 := of_decide_eq_true h2
    exact ⟨_, its, n, e, by rw [of_decide_eq_true h1], rfl, rfl, by rw [sizeLine_eq]; omega, strsAre_ok h3⟩
  · cases h
theorem TupS.wr {K : Fg} {a : Addr} {zs : List Str} (t : TupS K a zs) : WrT K a (zs.map V.str) := by
  obtain ⟨o, its, n, h1, h2, _, h4, h5, h6⟩ := t.ex
  exact ⟨o, its, n, h1, h2, h4, h5, h6⟩
theorem TupS.rep {K : Fg} {a : Addr} {zs : List Str} (t : TupS K a zs) : ∀ S H, Rep K S H (.ref a) (.tup (zs.map .str)) := fun S H => .tup (.inr t.wr) RepL.ofStrs
def rTIndex (K : Fg) : V → List V → Hp → VK → Prop := fun x xs H Q => ∃ p, ∃ ys : List Str, ∃ z j, x = .ref p ∧ xs = [.str z] ∧ SqT K H p (ys.map V.str) ∧ ys[j]? = some z ∧ (∀ m, m < j → ys[m]? ≠ some z) ∧ Q (.int (j : Nat)) H
def rUpper : V → List V → Hp → VK → Prop := fun x xs H Q => ∃ a, x = .str a ∧ xs = [] ∧ a.length ≤ 5592405 ∧ Q (.str (Txt.upper a)) H
section
variable {K : Fg} {T : Tbl} {E E' : XK} {X : XP} {S S' S0 J O O' : Ad} {H H1 H2 : Hp} {Γ Γ1 Γ' : List Ent} {σ σ' : L2.St}
variable {N N' : List Ent → Prop} {R : Rt → List Ent → Prop} {B C : List Ent → Prop} {ts tu : TS} {te ta tb : TE} {tt : TT} {tr : TA} {P : Dt → Prop} {A : List Dt → Prop} {ti : TI} {F : FS}
theorem x_con {a : Addr} {zs : List Str} (t : TupS K a zs) (p : P (.tup (zs.map .str))) : EX K T E X (tC (.ref a)) Γ P := x_wr t.rep p
/-- a class as a value is but handed to isinstance -/
theorem x_tindex {a : Addr} {zs : List Str} (t : TupS K a zs) (h : EX K T E X tb Γ fun y => ∃ z j, y = .str z ∧ zs[j]? = some z ∧ (∀ m, m < j → zs[m]? ≠ some z) ∧ P (.int (j : Nat))) : EX K T E X (tBM K "tuple" (rTIndex K) (tC (.ref a)) (tCons tb tNil)) Γ P := fun S0 J σ H r xo Q q => by
  obtain ⟨o, its, n, h1, h2, h3, _⟩ := t.ex
  refine ⟨.inr (.inl ⟨rfl, o, h1, h2, h3⟩), h S0 J σ H r xo _ fun w y H2 ⟨z, j, ey, hj, hm, p⟩ r2 n2 rw' => ?_⟩
  subst ey
  cases rw'
  exact ⟨a, zs, z, j, rfl, rfl, .inr t.wr, hj, hm, q _ _ H2 p r2 n2 (.int _)⟩
theorem SqB.lst {H : Hp} {v : V} {xs : List V} (h : SqB K H v true xs) : ∃ a, v = .ref a ∧ SqL K H a xs := by
  obtain ⟨a, e, h⟩ := h
  exact ⟨a, e, (h.resolve_right fun z => nomatch z.1).2⟩
theorem RepB.on {v : V} {d : Dt} (h : RepB K J (Sx S0 Γ) H v d) (r : Rel K T S0 J Γ σ H) (n : Nx T J H H1) : RepB K J (Sx S0 Γ) H1 v d := by
  rcases h with h | ⟨a, xs, ds, e1, e2, e3, e4, e5⟩
  · exact .inl (h.nx (r.jS n))
  · exact .inr ⟨a, xs, ds, e1, e2, e3, n.le _ _ e4 noT_lst e3, e5.nx (r.jS n)⟩
theorem x_lindex (ha : EB K T E X ta Γ fun x => ∃ zs : List Str, x = .lst (zs.map .str) ∧ EX K T E X tb Γ fun y => ∃ z j, y = .str z ∧ zs[j]? = some z ∧ (∀ m, m < j → zs[m]? ≠ some z) ∧ P (.int (j : Nat))) : EX K T E X (tBM K "list" (rIndex K) ta (tCons tb tNil)) Γ P := fun S0 J σ H r xo Q q =>
  ha S0 J σ H r xo _ fun v x H2 ⟨zs, ex, hb⟩ r2 n2 rv => by
    subst ex
    obtain ⟨xs, hs, rr⟩ := RepB.seq (b := true) rv
    obtain ⟨a, e, h⟩ := hs.lst
    subst e
    refine ⟨.inl ⟨rfl, _, h⟩, hb S0 J σ H2 r2 (xo.nx n2) _ fun w y H3 ⟨z, j, ey, hj, hm, p⟩ r3 n3 rw' => ?_⟩
    subst ey
    cases rw'
    obtain ⟨xs3, hs3, rr3⟩ := RepB.seq (b := true) (rv.on r2 n3)
    obtain ⟨a3, e3, h3⟩ := hs3.lst
    cases e3
    rw [rr3.strs] at h3
    refine ⟨a, zs.map V.str, .str z, j, .str z, rfl, rfl, h3, rfl, (by rw [List.all_map]; exact List.all_eq_true.mpr fun _ _ => rfl), by rw [List.getElem?_map, hj]; rfl, by simp [eqV], fun m z' hlt hz => ?_, q _ _ H3 p r3 (n2.trans n3) (.int _)⟩
    rw [List.getElem?_map] at hz
    cases hx : zs[m]? with
    | none => rw [hx] at hz; cases hz
    | some u =>
      rw [hx] at hz
      cases hz
      have := hm m hlt
      rw [hx] at this
      simp only [eqV]
      exact Bool.eq_false_iff.mpr fun z' => this (by rw [eq_of_beq z'])
theorem x_upper (ha : EX K T E X ta Γ fun x => ∃ z, x = .str z ∧ z.length ≤ 5592405 ∧ P (.str (Txt.upper z))) : EX K T E X (tBM0 K "str" rUpper ta) Γ P := fun S0 J σ H r xo Q q =>
  ha S0 J σ H r xo _ fun v x H2 ⟨z, ex, hz, p⟩ r2 n2 rv => by
    subst ex
    cases rv
    exact ⟨rfl, z, rfl, rfl, hz, q _ _ H2 p r2 n2 (.str _)⟩
theorem x_slS {tl th : TO} (ha : EX K T E X ta Γ fun x => EO K T E X tl Γ fun lo => EO K T E X th Γ fun hi => ∃ z, x = .str z ∧ z.length ≤ sizeLine ∧ P (.str (Txt.slice z lo hi))) : EX K T E X (tSl (uSl K) ta tl th) Γ P := fun S0 J σ H rl xo Q q =>
  ha S0 J σ H rl xo _ fun v x H2 hb r2 n2 rv => hb S0 J σ H2 r2 (xo.nx n2) _ fun lo H3 hc r3 n3 => hc S0 J σ H3 r3 (xo.nx (n2.trans n3)) _ fun hi H4 ⟨z, ex, hz, p⟩ r4 n4 => by
    subst ex
    cases rv
    exact .inr (.inr ⟨z, rfl, hz, q _ _ H4 p r4 ((n2.trans n3).trans n4) (.str _)⟩)
theorem x_revT (ha : EX K T E X ta Γ fun x => ∃ ds, x = .tup ds ∧ P (.tup ds.reverse)) : EX K T E X (tRevT K ta) Γ P := fun S0 J σ H rl xo Q q =>
  ha S0 J σ H rl xo _ fun v x H2 ⟨ds, ex, p⟩ r2 n2 rv => by
    subst ex
    cases rv with
    | @tup a xs _ hs rr =>
      refine ⟨a, xs, rfl, hs.sq, fun l hl => ?_⟩
      have n5 : ∀ {S : Ad}, Nx T S H2 (upd H2 l (.tup xs.reverse)) := fun {S} => .new hl noT_tup
      exact q _ _ _ p (r2.nx n5) (n2.trans n5) (.tup (.inl ⟨r2.fresh (.of hl), .inl upd_same⟩) (rr.rev.nx n5))
end
/-! ### kinds by their names -/
def TyK (Cs : List Addr) : Dt → Prop
  | .obj C _ => C ∈ Cs
  | _ => True
def tInt : Dt → Bool
  | .int _ => true
  | .bl _ => true
  | _ => false
def tBool : Dt → Bool
  | .bl _ => true
  | _ => false
def tStr : Dt → Bool
  | .str _ => true
  | _ => false
def tList : Dt → Bool
  | .lst _ => true
  | _ => false
def tTuple : Dt → Bool
  | .tup _ => true
  | _ => false
def tDict : Dt → Bool
  | .dct _ => true
  | _ => false
def tObj (D : Addr) : Dt → Bool
  | .obj C _ => decide (C = D)
  | _ => false
theorem isB_of {Cs : List Addr} {d : Dt} {c : String} {f : Dt → Bool} (hc : c ∈ tyNames) (h : ∀ n d, tyD d = some n → kitB n c = some (f d)) (ho : ∀ C l, f (.obj C l) = false) (k : TyK Cs d) : isB Cs d c = some (f d) := by
  cases d with
  | obj C l =>
    unfold isB
    dsimp only
    rw [if_pos ⟨k, hc⟩, ho]
  | _ => exact Option.bind_eq_some_iff.mpr ⟨_, rfl, h _ _ rfl⟩
theorem kB (c : String) (f : Dt → Bool) (h1 : kitB "NoneType" c = some (f .non)) (h2 : ∀ b, kitB "bool" c = some (f (.bl b))) (h3 : ∀ i, kitB "int" c = some (f (.int i))) (h4 : ∀ s, kitB "str" c = some (f (.str s))) (h5 : ∀ l, kitB "tuple" c = some (f (.tup l)))
    (h6 : ∀ l, kitB "list" c = some (f (.lst l))) (h7 : ∀ l, kitB "dict" c = some (f (.dct l))) : ∀ n d, tyD d = some n → kitB n c = some (f d) := fun n d e => by
  cases d <;> cases e
  · exact h1
  · exact h2 _
  · exact h3 _
  · exact h4 _
  · exact h5 _
  · exact h6 _
  · exact h7 _
theorem kNone (c : String) (b : Bool) (h : kitB "NoneType" c = some b) {f : Dt → Bool} (e : f .non = b) : kitB "NoneType" c = some (f .non) := by rw [e]; exact h
theorem k_int : ∀ n d, tyD d = some n → kitB n "int" = some (tInt d) := kB _ _ (show _ = some false by decide +kernel) (fun _ => (show _ = some true by decide +kernel)) (fun _ => (show _ = some true by decide +kernel)) (fun _ => (show _ = some false by decide +kernel)) (fun _ => (show _ = some false by decide +kernel)) (fun _ => (show _ = some false by decide +kernel)) (fun _ => (show _ = some false by decide +kernel))
theorem k_bool : ∀ n d, tyD d = some n → kitB n "bool" = some (tBool d) := kB _ _ (show _ = some false by decide +kernel) (fun _ => (show _ = some true by decide +kernel)) (fun _ => (show _ = some false by decide +kernel)) (fun _ => (show _ = some false by decide +kernel)) (fun _ => (show _ = some false by decide +kernel)) (fun _ => (show _ = some false by decide +kernel)) (fun _ => (show _ = some false by decide +kernel))
theorem k_str : ∀ n d, tyD d = some n → kitB n "str" = some (tStr d) := kB _ _ (show _ = some false by decide +kernel) (fun _ => (show _ = some false by decide +kernel)) (fun _ => (show _ = some false by decide +kernel)) (fun _ => (show _ = some true by decide +kernel)) (fun _ => (show _ = some false by decide +kernel)) (fun _ => (show _ = some false by decide +kernel)) (fun _ => (show _ = some false by decide +kernel))
theorem k_tuple : ∀ n d, tyD d = some n → kitB n "tuple" = some (tTuple d) := kB _ _ (show _ = some false by decide +kernel) (fun _ => (show _ = some false by decide +kernel)) (fun _ => (show _ = some false by decide +kernel)) (fun _ => (show _ = some false by decide +kernel)) (fun _ => (show _ = some true by decide +kernel)) (fun _ => (show _ = some false by decide +kernel)) (fun _ => (show _ = some false by decide +kernel))
theorem k_list : ∀ n d, tyD d = some n → kitB n "list" = some (tList d) := kB _ _ (show _ = some false by decide +kernel) (fun _ => (show _ = some false by decide +kernel)) (fun _ => (show _ = some false by decide +kernel)) (fun _ => (show _ = some false by decide +kernel)) (fun _ => (show _ = some false by decide +kernel)) (fun _ => (show _ = some true by decide +kernel)) (fun _ => (show _ = some false by decide +kernel))
theorem k_dict : ∀ n d, tyD d = some n → kitB n "dict" = some (tDict d) := kB _ _ (show _ = some false by decide +kernel) (fun _ => (show _ = some false by decide +kernel)) (fun _ => (show _ = some false by decide +kernel)) (fun _ => (show _ = some false by decide +kernel)) (fun _ => (show _ = some false by decide +kernel)) (fun _ => (show _ = some false by decide +kernel)) (fun _ => (show _ = some true by decide +kernel))
section
variable {K : Fg} {T : Tbl} {E E' : XK} {X : XP} {Γ : List Ent} {te ta tb : TE} {tt : TT} {P : Dt → Prop} {Cs : List Addr}
theorem x_isInt (ha : EB K T E X ta Γ fun x => TyK Cs x ∧ P (.bl (tInt x))) : EX K T E X (tCB (rIsiU K Cs) (tCons ta (tCons (tC (.ty "int")) tNil))) Γ P := x_isiU (ha.imp fun x ⟨k, p⟩ => ⟨_, isB_of (by decide) k_int (fun _ _ => rfl) k, p⟩)
theorem x_isBool (ha : EB K T E X ta Γ fun x => TyK Cs x ∧ P (.bl (tBool x))) : EX K T E X (tCB (rIsiU K Cs) (tCons ta (tCons (tC (.ty "bool")) tNil))) Γ P := x_isiU (ha.imp fun x ⟨k, p⟩ => ⟨_, isB_of (by decide) k_bool (fun _ _ => rfl) k, p⟩)
theorem x_isStr (ha : EB K T E X ta Γ fun x => TyK Cs x ∧ P (.bl (tStr x))) : EX K T E X (tCB (rIsiU K Cs) (tCons ta (tCons (tC (.ty "str")) tNil))) Γ P := x_isiU (ha.imp fun x ⟨k, p⟩ => ⟨_, isB_of (by decide) k_str (fun _ _ => rfl) k, p⟩)
theorem x_isTup (ha : EB K T E X ta Γ fun x => TyK Cs x ∧ P (.bl (tTuple x))) : EX K T E X (tCB (rIsiU K Cs) (tCons ta (tCons (tC (.ty "tuple")) tNil))) Γ P := x_isiU (ha.imp fun x ⟨k, p⟩ => ⟨_, isB_of (by decide) k_tuple (fun _ _ => rfl) k, p⟩)
theorem x_isLst (ha : EB K T E X ta Γ fun x => TyK Cs x ∧ P (.bl (tList x))) : EX K T E X (tCB (rIsiU K Cs) (tCons ta (tCons (tC (.ty "list")) tNil))) Γ P := x_isiU (ha.imp fun x ⟨k, p⟩ => ⟨_, isB_of (by decide) k_list (fun _ _ => rfl) k, p⟩)
theorem x_isDct (ha : EB K T E X ta Γ fun x => TyK Cs x ∧ P (.bl (tDict x))) : EX K T E X (tCB (rIsiU K Cs) (tCons ta (tCons (tC (.ty "dict")) tNil))) Γ P := x_isiU (ha.imp fun x ⟨k, p⟩ => ⟨_, isB_of (by decide) k_dict (fun _ _ => rfl) k, p⟩)
theorem x_isObj {D : Addr} (hD : D ∈ Cs) (ha : EB K T E X ta Γ fun x => TyK Cs x ∧ P (.bl (tObj D x))) : EX K T E X (tCB (rIsiU K Cs) (tCons ta (tCons (tC (.ref D)) tNil))) Γ P := x_isiO (ha.imp fun x ⟨k, p⟩ => ⟨_, by
  unfold isO
  rw [if_pos hD]
  cases x with
  | obj C l => dsimp only; rw [if_pos (show C ∈ Cs from k)]; rfl
  | _ => rfl, p⟩)
/-! ### small helps -/
theorem le_le (ha : EX K T E X ta Γ fun x => EX K T E X tb Γ fun y => ∃ i j, x = .int i ∧ y = .int j ∧ (decide (i ≤ j) = true → EX K T E X te Γ fun z => ∃ k, z = .int k ∧ P (.bl (decide (j ≤ k)))) ∧ (decide (i ≤ j) = false → P (.bl false))) :
    EX K T E X (tChain uLe uLe ta tb te) Γ P := x_chain2 (g := fun i j => decide (i ≤ j)) (h := fun i j => decide (i ≤ j)) (fun i j H Q q => ⟨i, j, rfl, rfl, q⟩) (fun i j H Q q => ⟨i, j, rfl, rfl, q⟩) ha
theorem le_lt (ha : EX K T E X ta Γ fun x => EX K T E X tb Γ fun y => ∃ i j, x = .int i ∧ y = .int j ∧ (decide (i ≤ j) = true → EX K T E X te Γ fun z => ∃ k, z = .int k ∧ P (.bl (decide (j < k)))) ∧ (decide (i ≤ j) = false → P (.bl false))) :
    EX K T E X (tChain uLe (vLt K) ta tb te) Γ P := x_chain2 (g := fun i j => decide (i ≤ j)) (h := fun i j => decide (i < j)) (fun i j H Q q => ⟨i, j, rfl, rfl, q⟩) (fun i j H Q q => .inl (.inl ⟨i, j, rfl, rfl, q⟩)) ha
theorem okd_int (i : Int) : Okd (.int i) := ⟨rfl, by simp [SeqAt.shaped, toPy, PyData.canLay0, PyData.depth]⟩
theorem okd_bl (b : Bool) : Okd (.bl b) := ⟨rfl, by simp [SeqAt.shaped, toPy, PyData.canLay0, PyData.depth]⟩
theorem okd_non : Okd .non := ⟨rfl, by simp [SeqAt.shaped, toPy, PyData.canLay0, PyData.depth]⟩
def strOkB (s : Str) : Bool := (PyData.str s).canLay0 && decide (s.length ≤ 100000)
theorem okd_str {s : Str} (h : strOkB s = true) : Okd (.str s) := ⟨rfl, by
  have h' : (PyData.str s).canLay0 = true := (ba2 h).1
  simp [SeqAt.shaped, toPy, h', PyData.depth]⟩
theorem x_l {te : TE} (h : EL K T E X te Γ fun ds => P (.lst ds)) : EX K T E X te Γ P := x_lst h fun _ p => p
theorem x_l_lst {tr : TA} (h : EL K T E X (tLst tr) Γ fun ds => P (.lst ds)) : EX K T E X (tLst tr) Γ P := x_l h
theorem x_l_lc {ti : TI} {g : TG} {tt : TT} {te : TE} {vs : List Nat} (h : EL K T E X (tLc ti g tt te vs) Γ fun ds => P (.lst ds)) : EX K T E X (tLc ti g tt te vs) Γ P := x_l h
theorem x_l_list {tr : TA} (h : EL K T E X (tCB (uList K) tr) Γ fun ds => P (.lst ds)) : EX K T E X (tCB (uList K) tr) Γ P := x_l h
theorem x_l_sort {tr : TA} (h : EL K T E X (tCB (rSortedS K) tr) Γ fun ds => P (.lst ds)) : EX K T E X (tCB (rSortedS K) tr) Γ P := x_l h
theorem x_l_rev {ta : TE} (h : EL K T E X (tRevL K ta) Γ fun ds => P (.lst ds)) : EX K T E X (tRevL K ta) Γ P := x_l h
theorem x_allL {te : TE} (h : EL K T E X te Γ fun ds => ∃ bs : List Bool, ds = bs.map Dt.bl ∧ P (.bl (bs.all id))) : EX K T E X (tCB (rAll K) (tCons te tNil)) Γ P :=
  x_all (EX.eb (x_lst h fun ds ⟨bs, e, p⟩ => ⟨bs, by rw [e], p⟩))
variable {A B : Prop}
/-- a truth that is known -/
theorem bt (h : A) : ∃ c, Dt.bl true = .bl c ∧ (c = true → A) ∧ (c = false → B) := ⟨true, rfl, fun _ => h, fun z => nomatch z⟩
theorem bf (h : B) : ∃ c, Dt.bl false = .bl c ∧ (c = true → A) ∧ (c = false → B) := ⟨false, rfl, fun z => (nomatch z), fun _ => h⟩
theorem nbt (h : B) : ∃ c, Dt.bl true = .bl c ∧ ((!c) = true → A) ∧ ((!c) = false → B) := ⟨true, rfl, fun z => (nomatch z), fun _ => h⟩
theorem nbf (h : A) : ∃ c, Dt.bl false = .bl c ∧ ((!c) = true → A) ∧ ((!c) = false → B) := ⟨false, rfl, fun _ => h, fun z => nomatch z⟩
theorem bb {b : Bool} (h1 : b = true → A) (h2 : b = false → B) : ∃ c, Dt.bl b = .bl c ∧ (c = true → A) ∧ (c = false → B) := ⟨b, rfl, h1, h2⟩
theorem nbb {b : Bool} (h1 : b = false → A) (h2 : b = true → B) : ∃ c, Dt.bl b = .bl c ∧ ((!c) = true → A) ∧ ((!c) = false → B) := ⟨b, rfl, fun z => h1 (by simpa using z), fun z => h2 (by simpa using z)⟩
theorem ot (h : B) : ∃ c, Dt.bl true = .bl c ∧ (c = false → A) ∧ (c = true → B) := ⟨true, rfl, fun z => (nomatch z), fun _ => h⟩
theorem of (h : A) : ∃ c, Dt.bl false = .bl c ∧ (c = false → A) ∧ (c = true → B) := ⟨false, rfl, fun _ => h, fun z => (nomatch z)⟩
theorem ob' {b : Bool} (h1 : b = false → A) (h2 : b = true → B) : ∃ c, Dt.bl b = .bl c ∧ (c = false → A) ∧ (c = true → B) := ⟨b, rfl, h1, h2⟩
theorem not_ (h : A) : ∃ c, Dt.bl true = .bl c ∧ ((!c) = false → A) ∧ ((!c) = true → B) := ⟨true, rfl, fun _ => h, fun z => (nomatch z)⟩
theorem nof (h : B) : ∃ c, Dt.bl false = .bl c ∧ ((!c) = false → A) ∧ ((!c) = true → B) := ⟨false, rfl, fun z => (nomatch z), fun _ => h⟩
theorem nob {b : Bool} (h1 : b = true → A) (h2 : b = false → B) : ∃ c, Dt.bl b = .bl c ∧ ((!c) = false → A) ∧ ((!c) = true → B) := ⟨b, rfl, fun z => h1 (by simpa using z), fun z => h2 (by simpa using z)⟩
theorem tyes {G : Bool → Prop} (h : G true) : ET K T E X tYes Γ G := fun S0 J σ H r xo Q q => q true H h r .refl
/-- texts, whole numbers, truths: = as it is -/
theorem eqD_S {a b : Str} : eqD (.str a) (.str b) = decide (a = b) := by
  simp only [eqD, toPy, PyData.eqv]
  by_cases h : a = b <;> simp [h]
theorem eqD_I {a b : Int} : eqD (.int a) (.int b) = decide (a = b) := by
  simp only [eqD, toPy, PyData.eqv]
  by_cases h : a = b <;> simp [h]
theorem eqD_same {d : Dt} (h : Okd d) : eqD d d = true := SeqAt.eqv_refl _ (SeqAt.canLay_of_shaped h.2)
theorem small {n : Nat} (h : n ≤ 100000) : n ≤ sizeLine := by rw [sizeLine_eq]; omega
theorem small' {n : Nat} (h : n < 100000) : n < sizeLine := by rw [sizeLine_eq]; omega
theorem ixN_of {n k : Nat} (h : k < n) : ixN n (k : Nat) = some k := by
  unfold ixN
  rw [if_pos (by omega), if_pos (by omega), Int.toNat_natCast]
end
end Lp

set_option Elab.async false
set_option linter.all false
set_option maxRecDepth 100000
set_option maxHeartbeats 4000000
/-! L27: own exceptions' classes, their __init__. Own work. -/
namespace Lp
open PySem PySem.Spec PyProof.Rows L2 LamX
/-- an own exception's class -/
structure OxOk (K : Fg) (C : Addr) (f : Str) (fI : Addr) : Prop where
  ex : OexC K C
  xf : XfC K C
  no : PySem.W.findIn K (.ref C) f = some none
  ini : PySem.W.findIn K (.ref C) "__init__" = some (some (.ref fI))
  ty : PySem.W.typeIn K (.ref fI) = some (.type "function")
theorem excB_ok {K : Fg} {x f : Str} (h : excB K x f = true) : OxOk K (He.ga K x) f (He.ma K (He.ga K x) "__init__") := by
  obtain ⟨h1, h⟩ := ba2 h
  obtain ⟨h2, h⟩ := ba2 h
  obtain ⟨h3, h⟩ := ba2 h
  obtain ⟨h4, h5⟩ := ba2 h
  exact ⟨oexB_ok h1, xfB_ok h2, of_decide_eq_true h3, of_decide_eq_true h4, of_decide_eq_true h5⟩
theorem spX_len {C : Addr} {f : Str} {vs : List V} {H : Hp} {Q : VK} {E : XK} (h : spX C f vs H Q E) : vs.length = 2 := by
  obtain ⟨a, v, rfl, _⟩ := h
  rfl
/-- what such an __init__ does -/
theorem spX_body {K : Fg} {C : Addr} {f m : Str} {fI : Addr} {vs : List V} {H : Hp} {Q : VK} {E : XK} (o : OxOk K C f fI) (h : spX C f vs H Q E) {n1 n2 : Str} :
    (tSeq (tDrop (tVeI K (tCons (tVar 0) (tCons (tC (.str m)) tNil)))) (tOst K f (tVar 0) (tVar 1))) { nx := fun _ H' => Q .non H', rt := Q } (L2.start [n1, n2] vs) H := by
  obtain ⟨a, v, rfl, h1, h2⟩ := h
  refine ⟨.ref a, rfl, a, C, [.str m], rfl, by show 1 ≤ 1000; decide, o.ex, h1, ?_⟩
  refine ⟨v, rfl, .ref a, rfl, a, C, rfl, o.ex, o.no, .inl ⟨h1, fun dx hd hne => h2 dx hd hne⟩⟩
end Lp

set_option Elab.async false
set_option linter.all false
set_option maxRecDepth 100000
set_option maxHeartbeats 4000000
/-! L28: plain facts of data: sizes, depths, what == and the sameness take. Own work. -/
namespace Lp
open PySem PySem.Spec PyProof.Rows L2 LamX
mutual
/-- no list in it is long -/
def szB : Dt → Bool
  | .tup l => decide (l.length ≤ 100000) && szL l
  | .lst l => decide (l.length ≤ 100000) && szL l
  | .str s => decide (s.length ≤ 100000)
  | _ => true
def szL : List Dt → Bool
  | [] => true
  | d :: l => szB d && szL l
end
/-- data that the sameness takes, at most n deep -/
def dOk (n : Nat) (d : Dt) : Prop := Okd d ∧ szB d = true ∧ (toPy d).depth ≤ n
theorem okd_itemL : ∀ {l : List Dt} {i : Nat} {x : Dt}, plainL l = true → PyData.canLayAll0 (toPyL l) = true → l[i]? = some x → plainB x = true ∧ (toPy x).canLay0 = true ∧ (toPy x).depth ≤ PyData.depthAll (toPyL l)
  | [], _, _, _, _, h => by cases h
  | y :: l, 0, x, h1, h2, h => by
    cases h
    simp only [plainL, Bool.and_eq_true] at h1
    simp only [toPyL, PyData.canLayAll0, Bool.and_eq_true] at h2
    exact ⟨h1.1, h2.1, by simp only [toPyL, PyData.depthAll]; exact Nat.le_max_left _ _⟩
  | y :: l, i + 1, x, h1, h2, h => by
    simp only [plainL, Bool.and_eq_true] at h1
    simp only [toPyL, PyData.canLayAll0, Bool.and_eq_true] at h2
    obtain ⟨a, b, c⟩ := okd_itemL (i := i) h1.2 h2.2 (by simpa using h)
    exact ⟨a, b, by simp only [toPyL, PyData.depthAll]; exact Nat.le_trans c (Nat.le_max_right _ _)⟩
theorem okd_item {b : Bool} {l : List Dt} {i n : Nat} {x : Dt} (ok : Okd (sqD b l)) (hd : (toPy (sqD b l)).depth ≤ n + 1) (h : l[i]? = some x) : Okd x ∧ (toPy x).depth ≤ n := by
  have h1 : plainL l = true := by cases b <;> simpa [sqD, plainB] using ok.1
  have h2 : PyData.canLayAll0 (toPyL l) = true := by
    have := SeqAt.canLay_of_shaped ok.2
    cases b <;> simpa [sqD, toPy, PyData.canLay0] using this
  have h3 : PyData.depthAll (toPyL l) ≤ n := by
    cases b <;> simp [sqD, toPy, PyData.depth] at hd <;> omega
  have h4 : PyData.depthAll (toPyL l) + 1 ≤ 64 := by
    have := SeqAt.depth_of_shaped ok.2
    cases b <;> simpa [sqD, toPy, PyData.depth] using this
  obtain ⟨a, c, d⟩ := okd_itemL h1 h2 h
  refine ⟨⟨a, ?_⟩, Nat.le_trans d h3⟩
  unfold SeqAt.shaped
  rw [Bool.and_eq_true_iff]
  exact ⟨c, decide_eq_true (by omega)⟩
theorem sq_depth {b : Bool} {l : List Dt} : 1 ≤ (toPy (sqD b l)).depth := by cases b <;> simp [sqD, toPy, PyData.depth]
theorem isNon_sq {b : Bool} {l : List Dt} : isNon (sqD b l) = false := by cases b <;> rfl
theorem sz_sq {b : Bool} {l : List Dt} : szB (sqD b l) = (decide (l.length ≤ 100000) && szL l) := by cases b <;> rfl
theorem sz_item : ∀ {l : List Dt} {i : Nat} {x : Dt}, szL l = true → l[i]? = some x → szB x = true
  | [], _, _, _, h => by cases h
  | y :: l, 0, x, h1, h => by
    cases h
    simp only [szL, Bool.and_eq_true] at h1
    exact h1.1
  | y :: l, i + 1, x, h1, h => by
    simp only [szL, Bool.and_eq_true] at h1
    exact sz_item (i := i) h1.2 (by simpa using h)
/-- a list or a tuple of such data -/
theorem dok_sq {n : Nat} {b : Bool} {S : List Dt} (h : ∀ d ∈ S, dOk n d) (hl : S.length ≤ 100000) (hn : n ≤ 62) : dOk (n + 1) (sqD b S) := by
  have key : ∀ {S : List Dt}, (∀ d ∈ S, dOk n d) → plainL S = true ∧ PyData.canLayAll0 (toPyL S) = true ∧ PyData.depthAll (toPyL S) ≤ n ∧ szL S = true := by
    intro S
    induction S with
    | nil => intro _; exact ⟨rfl, rfl, by simp [toPyL, PyData.depthAll], rfl⟩
    | cons d S ih =>
      intro h
      obtain ⟨i1, i2, i3, i4⟩ := ih fun e he => h e (by simp [he])
      obtain ⟨hd, hz, hp⟩ := h d (by simp)
      refine ⟨by simp [plainL, hd.1, i1], ?_, ?_, by simp [szL, hz, i4]⟩
      · simp only [toPyL, PyData.canLayAll0, Bool.and_eq_true]
        exact ⟨SeqAt.canLay_of_shaped hd.2, i2⟩
      · simp only [toPyL, PyData.depthAll]
        exact Nat.max_le.mpr ⟨hp, i3⟩
  obtain ⟨i1, i2, i3, i4⟩ := key h
  have dp : (toPy (sqD b S)).depth ≤ n + 1 := by cases b <;> simp only [sqD, toPy, PyData.depth, Bool.false_eq_true, if_false, if_true] <;> omega
  refine ⟨⟨by cases b <;> simpa [sqD, plainB] using i1, ?_⟩, by rw [sz_sq]; simp [hl, i4], dp⟩
  unfold SeqAt.shaped
  rw [Bool.and_eq_true_iff]
  refine ⟨?_, decide_eq_true (by omega)⟩
  cases b <;> simpa only [sqD, toPy, PyData.canLay0, Bool.false_eq_true, if_false, if_true] using i2
theorem dok_lst {n : Nat} {S : List Dt} (h : ∀ d ∈ S, dOk n d) (hl : S.length ≤ 100000) (hn : n ≤ 62) : dOk (n + 1) (.lst S) := dok_sq (b := true) h hl hn
theorem dok_tup {n : Nat} {S : List Dt} (h : ∀ d ∈ S, dOk n d) (hl : S.length ≤ 100000) (hn : n ≤ 62) : dOk (n + 1) (.tup S) := dok_sq (b := false) h hl hn
theorem dok_mono {n m : Nat} {d : Dt} (h : dOk n d) (e : n ≤ m) : dOk m d := ⟨h.1, h.2.1, Nat.le_trans h.2.2 e⟩
theorem dok_int {n : Nat} (i : Int) : dOk n (.int i) := ⟨okd_int i, rfl, by simp [toPy, PyData.depth]⟩
theorem dok_bl {n : Nat} (b : Bool) : dOk n (.bl b) := ⟨okd_bl b, rfl, by simp [toPy, PyData.depth]⟩
theorem dok_non {n : Nat} : dOk n .non := ⟨okd_non, rfl, by simp [toPy, PyData.depth]⟩
theorem dok_str {n : Nat} {s : Str} (h : strOkB s = true) : dOk n (.str s) := ⟨okd_str h, (ba2 h).2, by simp [toPy, PyData.depth]⟩
theorem dok_pair {n : Nat} {x y : Dt} (hx : dOk n x) (hy : dOk n y) (hn : n ≤ 62) : dOk (n + 1) (.tup [x, y]) := dok_tup (fun d hd => by
  rcases List.mem_cons.mp hd with rfl | hd
  · exact hx
  · rw [List.mem_singleton.mp hd]; exact hy) (by show 2 ≤ 100000; decide) hn
theorem int_get {ns : List Int} {i : Nat} (h : i < ns.length) : (ns.map Dt.int)[i]? = some (.int ns[i]) := by
  rw [List.getElem?_map, List.getElem?_eq_getElem h]; rfl
theorem zero_add_nat (i : Nat) : (0 : Int) + (i : Nat) = (i : Nat) := by omega
theorem log2_lt {m : Int} (h1 : 0 < m) (h2 : m < 2 ^ 62) : m.natAbs.log2 < 9000 := by
  have h3 : m.natAbs < 2 ^ 62 := by omega
  have : m.natAbs.log2 < 62 := (Nat.log2_lt (by omega)).mpr h3
  omega
theorem pick_perm {α : Type} : ∀ {l : List α} {k : Nat} (h : k < l.length), (l[k] :: l.eraseIdx k).Perm l
  | x :: l, 0, _ => .refl _
  | x :: l, k + 1, h => by
    have h' : k < l.length := by simpa using h
    show (l[k] :: x :: l.eraseIdx k).Perm (x :: l)
    exact (List.Perm.swap _ _ _).trans (List.Perm.cons x (pick_perm h'))
theorem eqD_B {a b : Bool} : eqD (.bl a) (.bl b) = decide (a = b) := by
  simp only [eqD, toPy, PyData.eqv]
  cases a <;> cases b <;> rfl
theorem dec_refl {α : Type} [DecidableEq α] (a : α) : decide (a = a) = true := decide_eq_true rfl
theorem ct {A B : Prop} (h : A) : (true = true → A) ∧ (true = false → B) := ⟨fun _ => h, fun z => nomatch z⟩
theorem cf {A B : Prop} (h : B) : (false = true → A) ∧ (false = false → B) := ⟨fun z => (nomatch z), fun _ => h⟩
theorem ct' {A B : Prop} (h : B) : (true = false → A) ∧ (true = true → B) := ⟨fun z => (nomatch z), fun _ => h⟩
theorem cf' {A B : Prop} (h : A) : (false = false → A) ∧ (false = true → B) := ⟨fun _ => h, fun z => nomatch z⟩
theorem ty_any {Cs : List Addr} {d : Dt} (h : TyK [] d) : TyK Cs d := by
  cases d with
  | obj C l => exact (List.not_mem_nil h).elim
  | _ => trivial
def intB : Dt → Bool
  | .int _ => true
  | _ => false
end Lp

set_option Elab.async false
set_option linter.all false
set_option maxRecDepth 100000
set_option maxHeartbeats 4000000
/-! L29: comprehensions of one make: each item by itself, none, some. Own work. -/
namespace Lp
open PySem PySem.Spec PyProof.Rows L2 LamX
theorem map_get {α : Type} {f : α → Dt} {l : List α} {i : Nat} {d : Dt} (h : (l.map f)[i]? = some d) : ∃ r, l[i]? = some r ∧ d = f r := by
  rw [List.getElem?_map] at h
  cases hx : l[i]? with
  | none => rw [hx] at h; cases h
  | some r => rw [hx] at h; exact ⟨r, rfl, (Option.some.inj h).symm⟩
theorem take_snoc {α β : Type} {f : α → β} {l : List α} {i : Nat} {r : α} (h : l[i]? = some r) : (l.take i).map f ++ [f r] = (l.take (i + 1)).map f := by
  rw [List.take_add_one, h]
  simp
section
variable {K : Fg} {T : Tbl} {E : XK} {X : XP} {Γ : List Ent} {te : TE} {tt : TT} {ti : TI} {g : TG} {vs : List Nat} {A : List Dt → Prop}
/-- [e for .. in ..]: from item x comes h x -/
theorem l_map {α : Type} {f h : α → Dt} (hv : vs.all (noOwn Γ) = true) (hti : EI K T E X ti Γ fun ds => ∃ xs : List α, ds = xs.map f ∧ xs.length ≤ sizeLine ∧ (∀ x ∈ xs, SP K T E X g (f x) vs (wipeG Γ vs) fun Γ2 => EX K T E X te Γ2 fun y => y = h x) ∧ A (xs.map h)) :
    EL K T E X (tLc ti g tYes te vs) Γ A := by
  refine l_lc hv ?_
  intro S0 J σ H r xo R q
  refine hti S0 J σ H r xo R fun I ds H1 ⟨xs, e, hl, hx, a⟩ => q I ds H1 ⟨?_, fun i acc => acc = (xs.take i).map h, rfl, fun i d acc hd _ iv => ?_, fun acc _ iv => ?_⟩
  · rw [e, List.length_map]; exact hl
  · subst e
    obtain ⟨x, hxi, rfl⟩ := map_get hd
    have hmem := List.mem_of_getElem? hxi
    intro S1 J1 σ1 H2 v r1 xo1 rv Q q1
    refine hx x hmem S1 J1 σ1 H2 v r1 xo1 rv Q fun Γ' σ' ex r2 o s l => q1 Γ' σ' ?_ r2 o s l
    refine fun S2 J2 σ2 H3 r3 xo3 Q3 q3 => q3 true H3 ⟨fun _ => ex.imp fun y e => ?_, fun z => nomatch z⟩ r3 .refl
    show acc ++ [y] = (xs.take (i + 1)).map h
    rw [e, show acc = (xs.take i).map h from iv, take_snoc hxi]
  · have : acc = (xs.take ds.length).map h := iv
    rw [e, List.length_map, List.take_length] at this
    rw [this]; exact a
/-- [.. for .. in .. if t]: t never holds -/
theorem l_none (hv : vs.all (noOwn Γ) = true) (hti : EI K T E X ti Γ fun ds => ds.length ≤ sizeLine ∧ (∀ d ∈ ds, SP K T E X g d vs (wipeG Γ vs) fun Γ2 => ET K T E X tt Γ2 fun b => b = false) ∧ A []) :
    EL K T E X (tLc ti g tt te vs) Γ A := by
  refine l_lc hv ?_
  intro S0 J σ H r xo R q
  refine hti S0 J σ H r xo R fun I ds H1 ⟨hl, hx, a⟩ => q I ds H1 ⟨hl, fun i acc => acc = [], rfl, fun i d acc hd _ iv => ?_, fun acc _ iv => ?_⟩
  · intro S1 J1 σ1 H2 v r1 xo1 rv Q q1
    refine hx d (List.mem_of_getElem? hd) S1 J1 σ1 H2 v r1 xo1 rv Q fun Γ' σ' ex r2 o s l => q1 Γ' σ' ?_ r2 o s l
    exact ex.imp fun b e => by subst e; exact ⟨fun z => (nomatch z), fun _ => iv⟩
  · rw [show acc = [] from iv]; exact a
/-- [e for .. in range(n)]: whatever comes of each of the draws -/
theorem l_each {G : Dt → Prop} (hv : vs.all (noOwn Γ) = true) (hti : EI K T E X ti Γ fun ds => ds.length ≤ sizeLine ∧ (∀ d ∈ ds, SP K T E X g d vs (wipeG Γ vs) fun Γ2 => EX K T E X te Γ2 G) ∧ ∀ es : List Dt, es.length = ds.length → (∀ e ∈ es, G e) → A es) :
    EL K T E X (tLc ti g tYes te vs) Γ A := by
  refine l_lc hv ?_
  intro S0 J σ H r xo R q
  refine hti S0 J σ H r xo R fun I ds H1 ⟨hl, hx, a⟩ => q I ds H1 ⟨hl, fun i acc => acc.length = i ∧ ∀ e ∈ acc, G e, ⟨rfl, fun _ z => nomatch z⟩, fun i d acc hd _ iv => ?_, fun acc _ iv => a acc iv.1 iv.2⟩
  intro S1 J1 σ1 H2 v r1 xo1 rv Q q1
  refine hx d (List.mem_of_getElem? hd) S1 J1 σ1 H2 v r1 xo1 rv Q fun Γ' σ' ex r2 o s l => q1 Γ' σ' ?_ r2 o s l
  refine fun S2 J2 σ2 H3 r3 xo3 Q3 q3 => q3 true H3 ⟨fun _ => ex.imp fun y gy => ?_, fun z => nomatch z⟩ r3 .refl
  refine ⟨by rw [List.length_append, iv.1]; rfl, fun e he => ?_⟩
  rcases List.mem_append.mp he with he | he
  · exact iv.2 e he
  · rw [List.mem_singleton.mp he]; exact gy
end
end Lp

set_option Elab.async false
set_option linter.all false
set_option maxRecDepth 100000
set_option maxHeartbeats 4000000
/-! L30: while; sum; range with a step; comprehensions of two; makers with places and keywords. Own work. -/
namespace Lp
open PySem PySem.Spec PyProof.Rows L2 LamX
/-! ### sum of a list of whole numbers -/
section
variable {X : Cx}
def rSum (K : PySem.W.Frag) : List V → Hp → VK → Prop := fun vs H Q => ∃ (a : Addr) (ns : List Int), vs = [V.ref a] ∧ SqL K H a (ns.map V.int) ∧ (∀ n ∈ ns, 0 ≤ n ∧ n ≤ 2 ^ 40) ∧ ns.length ≤ 100000 ∧ Q (.int ns.sum) H
theorem sum_bnd : ∀ (ns : List Int), (∀ n ∈ ns, 0 ≤ n ∧ n ≤ 2 ^ 40) → 0 ≤ ns.sum ∧ ns.sum ≤ 2 ^ 40 * ns.length
  | [], _ => by simp
  | n :: ns, h => by
    have h1 := h n List.mem_cons_self
    have h2 := sum_bnd ns fun x hx => h x (List.mem_cons_of_mem _ hx)
    rw [List.sum_cons, List.length_cons]
    push_cast
    omega
theorem preSum_take (ns : List Int) : ∀ i : Nat, i ≤ ns.length → preSum (fun j => ns.getD j 0) i = (ns.take i).sum
  | 0, _ => rfl
  | i + 1, h => by
    show preSum _ i + ns.getD i 0 = _
    rw [preSum_take ns i (by omega), List.take_succ, List.sum_append]
    rw [List.getD_eq_getElem?_getD, List.getElem?_eq_getElem (show i < ns.length by omega)]
    simp
theorem cr_sum (hc : X.calm = true) : CallR X (.builtin "sum") (rSum X.K) := by
  intro pins s σ H vs us Q I r h
  obtain ⟨a, ns, rfl, hs, hb, hl0, q⟩ := h
  obtain ⟨its, rv, hl, _⟩ := I.list hs
  rw [Vals.ref1 r]
  have hlen : its.length = ns.length := by rw [← rv.length, List.length_map]
  have hval : ∀ (i : Nat) (v : Value), its.toArray[i]? = some v → ∃ t, v = .int (ns.getD i 0) t := fun i v hv => by
    have hv' : its[i]? = some v := by simpa using hv
    have hi : i < its.length := (List.getElem?_eq_some_iff.mp hv').1
    have hx : (ns.map V.int)[i]? = some (.int (ns.getD i 0)) := by
      rw [List.getElem?_map, List.getD_eq_getElem?_getD, List.getElem?_eq_getElem (show i < ns.length by omega)]
      rfl
    obtain ⟨u, hu, rx⟩ := rv.get hx
    rw [hv'] at hu
    cases hu
    exact rx
  refine call_sum_walk (iter_any hl.isList fun s₂ e2 st hne => ?_)
  subst e2
  refine ⟨_, _, _, _, _, _, fun i => ns.getD i 0, rfl, Walks.list (A := X.A.in1) (I.ok.hd hc) _ a hne its.toArray, st, fun b hb => ?_, hval, fun j hj => ?_, fun h' tk t' hk => ?_⟩
  · rcases List.mem_cons.mp hb with e | hb
    · rw [e]; show _ < (s.heap.push _).objs.size; rw [Heap.size_push]; exact Nat.lt_succ_self _
    · rw [List.mem_singleton.mp hb]
      obtain ⟨_, e, _⟩ := hl.isList
      show _ < (s.heap.push _).objs.size
      rw [Heap.size_push]
      exact Nat.lt_succ_of_lt (Heap.lt_size e)
  · have hj' : j < ns.length := by simpa [hlen] using hj
    show InLong (ns.getD j 0) ∧ InLong (preSum (fun i => ns.getD i 0) (j + 1))
    have h1 := hb (ns.getD j 0) (by rw [List.getD_eq_getElem?_getD, List.getElem?_eq_getElem hj']; exact List.getElem_mem hj')
    have h2 := sum_bnd (ns.take (j + 1)) fun n hn => hb n (List.mem_of_mem_take hn)
    have h3 : (ns.take (j + 1)).length ≤ 100000 := by rw [List.length_take]; omega
    have e : preSum (fun i => ns.getD i 0) (j + 1) = (ns.take (j + 1)).sum := preSum_take ns (j + 1) hj'
    refine ⟨?_, ?_⟩
    · unfold InLong; omega
    · rw [e]; unfold InLong; omega
  · refine ⟨.int _, H, I.kept fun b o eo => hk b o (fun hmem => ?_) (Heap.get?_push_of_some _ eo), ?_, q⟩
    · rcases List.mem_cons.mp hmem with e1 | hmem
      · exact absurd (e1 ▸ Heap.lt_size eo) (Nat.lt_irrefl _)
      · cases hmem
    · have e : preSum (fun i => ns.getD i 0) its.toArray.size = ns.sum := by
        rw [List.size_toArray, hlen, preSum_take ns _ (Nat.le_refl _), List.take_length]
      exact ⟨t', by rw [e]⟩
end
section
variable {K : Fg} {T : Tbl} {E E' : XK} {X : XP} {S S' S0 J O O' : Ad} {H H1 H2 : Hp} {Γ Γ1 Γ' : List Ent} {σ σ' : L2.St}
variable {N N' : List Ent → Prop} {R : Rt → List Ent → Prop} {B C : List Ent → Prop} {ts tu tb' : TS} {te ta tb tc : TE} {tt : TT} {tr : TA} {P : Dt → Prop} {A : List Dt → Prop} {ti : TI} {F : FS} {FI : IS}
theorem x_sum (ha : EB K T E X ta Γ fun x => ∃ ns : List Int, x = .lst (ns.map Dt.int) ∧ (∀ n ∈ ns, 0 ≤ n ∧ n ≤ 2 ^ 40) ∧ ns.length ≤ 100000 ∧ P (.int ns.sum)) : EX K T E X (tCB (rSum K) (tCons ta tNil)) Γ P :=
  x_b1 (ha.imp fun x ⟨bs, ex, h1, h2, p⟩ S0 J σ H v rl rv Q q => by
    subst ex
    obtain ⟨xs, ⟨a, e, h⟩, rr⟩ := RepB.seq (b := true) rv
    obtain ⟨_, h⟩ := h.resolve_right fun z => nomatch z.1
    rw [rr.ints] at h
    exact ⟨a, bs, by rw [e], h, h1, h2, q _ _ H p rl .refl (.int _)⟩)
/-! ### range with a step -/
def rgcD (lo c : Int) (n : Nat) : List Dt := (List.range n).map fun i => .int (lo + (i : Nat) * c)
theorem rgcD_len {lo c : Int} {n : Nat} : (rgcD lo c n).length = n := by simp [rgcD]
theorem rgcD_get {lo c : Int} {n i : Nat} {d : Dt} (h : (rgcD lo c n)[i]? = some d) : i < n ∧ d = .int (lo + (i : Nat) * c) := by
  have hl := (List.getElem?_eq_some_iff.mp h).1
  rw [rgcD_len] at hl
  unfold rgcD at h
  rw [List.getElem?_map, List.getElem?_range hl] at h
  exact ⟨hl, (Option.some.inj h).symm⟩
theorem wk_rngC {lo c : Int} {n : Nat} : WkD K T S H1 (Itc lo c n) (rgcD lo c n) := by
  refine ⟨fun _ => True, _, by rw [rgcD_len]; exact walk_rangeC, fun _ _ => trivial, fun i d H x H' hd n y => ?_⟩
  obtain ⟨e, ex⟩ := y
  rw [e, ex, (rgcD_get hd).2]
  exact ⟨.refl, fun S' sb lv n' => .int _⟩
theorem i_rng3 (h : EX K T E X ta Γ fun a => EX K T E X tb Γ fun b => EX K T E X tc Γ fun c => ∃ (i j k : Int) (n : Nat), a = .int i ∧ b = .int j ∧ c = .int k ∧ RgC i j k n ∧ A (rgcD i k n)) : EI K T E X (iRng3 (tCons ta (tCons tb (tCons tc tNil)))) Γ A := fun S0 J σ H r xo Q q =>
  h S0 J σ H r xo _ fun v a H2 h2 r2 n2 rv => h2 S0 J σ H2 r2 (xo.nx n2) _ fun w b H3 h3 r3 n3 rw' => h3 S0 J σ H3 r3 (xo.nx (n2.trans n3)) _ fun u c H4 ⟨i, j, k, n, e1, e2, e3, hg, a⟩ r4 n4 ru => by
    subst e1 e2 e3
    cases rv; cases rw'; cases ru
    exact ⟨i, j, k, n, rfl, hg, q _ _ H4 a r4 ((n2.trans n3).trans n4) wk_rngC⟩
/-! ### while -/
theorem s_while (h : ∃ Iv : Nat → List Ent → Prop, (∃ m, Iv m Γ) ∧ ∀ m Γ', Iv m Γ' → ET K T E X tt Γ' fun b => (b = true → SW K T E X tb' Γ' (fun Γ2 => ∃ m', m' < m ∧ Iv m' Γ2) R N (fun Γ2 => ∃ m', m' < m ∧ Iv m' Γ2)) ∧ (b = false → N Γ')) :
    SW K T E X (tWhile tt tb') Γ N R B C := fun S0 J σ H r xo D n rt b c => by
  obtain ⟨Iv, ⟨m0, h0⟩, hs⟩ := h
  refine ⟨fun m σ2 H2 => ∃ Γ2, Iv m Γ2 ∧ Rel K T S0 J Γ2 σ2 H2 ∧ Go T J Γ H Γ2 H2, ⟨m0, Γ, h0, r, .refl⟩, ?_⟩
  rintro m σ2 H2 ⟨Γ2, iv, r2, g2⟩
  have x2 := xo.go g2
  refine hs m Γ2 iv S0 J σ2 H2 r2 x2.ex _ fun k H3 hk r3 n3 => ?_
  have g3 := g2.trans (r2.go n3)
  cases k with
  | true =>
    rw [if_pos rfl]
    refine ⟨fun σ' H' => ∃ m', m' < m ∧ ∃ Γ4, Iv m' Γ4 ∧ Rel K T S0 J Γ4 σ' H' ∧ Go T J Γ H Γ4 H', fun σ' H' ⟨m', a, b⟩ => ⟨m', a, b⟩, ?_⟩
    exact hk.1 rfl S0 J σ2 H3 r3 (xo.go g3) _ (fun Γ5 σ5 H5 ⟨m', lm, p5⟩ r5 g5 => ⟨m', lm, Γ5, p5, r5, g3.trans g5⟩) (fun rr v Γ5 σ5 H5 p5 r5 g5 z => rt rr v Γ5 σ5 H5 p5 r5 (g3.trans g5) (z.mono (Og.go g3)))
      (fun Γ5 σ5 H5 p5 r5 g5 => n Γ5 σ5 H5 p5 r5 (g3.trans g5)) (fun Γ5 σ5 H5 ⟨m', lm, p5⟩ r5 g5 => ⟨m', lm, Γ5, p5, r5, g3.trans g5⟩)
  | false =>
    rw [if_neg (by simp)]
    exact n Γ2 σ2 H3 (hk.2 rfl) r3 g3
/-! ### [.. for .. for ..] -/
theorem Rel.far {W : Ad} (r : Rel K T S0 J Γ σ H) (n : Nx T W H H1) (hW : ∀ a, W a → S0 a) (jz : ∀ a, J a → JarOk H1 a) (tz : Tabs T H1) : Rel K T S0 J Γ σ H1 := by
  refine ⟨r.js, jz, fun a h z => r.wf a h (n.dom a z), tz, r.nd, r.os, r.len, fun k o e h1 h2 => ?_⟩
  have q := r.at_ k o e h1 h2
  have m : Nx T (Sx S0 Γ) H H1 := n.mono fun b z => .inl (hW b z)
  cases e with
  | emp => trivial
  | val d => obtain ⟨v, e1, e2⟩ := q; exact ⟨v, e1, e2.nx m⟩
  | own b ds => obtain ⟨e1, xs, e2, e3⟩ := q; exact ⟨e1, xs, n.le _ _ e2 noT_lst (fun z => r.os b (mem_owned h2) (hW _ z)), e3.nx m⟩
  | owk b ds => obtain ⟨e1, xs, e2, e3⟩ := q; exact ⟨e1, xs, n.le _ _ e2 noT_dK (fun z => r.os b (mem_ownedK h2) (hW _ z)), e3.nx m⟩
  | owo b C dx ds => obtain ⟨e1, xs, e2, e3⟩ := q; exact ⟨e1, xs, n.le _ _ e2 noT_ins (fun z => r.os b (mem_ownedO h2) (hW _ z)), e3.nx m⟩
  | jar k => exact q
/-- what stands between two turns: the new list at D, all else as at H0 -/
structure Cst (K : Fg) (T : Tbl) (J S : Ad) (D : Addr) (H0 : Hp) (acc : List Dt) (Hc : Hp) : Prop where
  ex : ∃ xs, Hc D = some (.lst xs) ∧ RepL K S Hc xs acc
  jr : ∀ a, J a → JarOk Hc a
  tb : Tabs T Hc
  nx : Nx T (Rj J D) H0 Hc
theorem Cst.on {D : Addr} {H0 Hc Hz : Hp} {acc : List Dt} (c : Cst K T J S D H0 acc Hc) (hD : ¬ J D) (hS : ∀ a, J a → S a) (n : Nx T J Hc Hz) (jz : ∀ a, J a → JarOk Hz a) (tz : Tabs T Hz) : Cst K T J S D H0 acc Hz := by
  obtain ⟨xs, e, rl⟩ := c.ex
  exact ⟨⟨xs, n.le _ _ e noT_lst hD, rl.nx (n.mono hS)⟩, jz, tz, c.nx.trans (n.mono fun _ z => .inl z)⟩
theorem Cst.add {D : Addr} {H0 Hc : Hp} {acc : List Dt} {v : V} {d : Dt} (c : Cst K T J S D H0 acc Hc) (hD : ¬ J D) (hS : S D) (rv : Rep K S Hc v d) : ∃ xs, Hc D = some (.lst xs) ∧ xs.length = acc.length ∧ Cst K T J S D H0 (acc ++ [d]) (upd Hc D (.lst (xs ++ [v]))) := by
  obtain ⟨xs, e, rl⟩ := c.ex
  have nP : Nx T (fun a => a = D) Hc (upd Hc D (.lst (xs ++ [v]))) := .put rfl e trivial
  have nP' : Nx T S Hc (upd Hc D (.lst (xs ++ [v]))) := nP.mono fun b z => by rw [z]; exact hS
  exact ⟨xs, e, rl.len, ⟨xs ++ [v], upd_same, (rl.snoc rv).nx nP'⟩, fun a h => (c.jr a h).nx nP fun z => hD (by rw [← z]; exact h), nP.tab c.tb, c.nx.trans (nP.mono fun b z => .inr z)⟩
theorem l_lc2 {g g1 : TG} {ti1 : TI} {vs vs1 : List Nat} (hw : vs.all (noOwn Γ) = true) (hv1 : vs1.all (fun i => vs.contains i) = true)
    (h : EI K T E X ti Γ fun ds => ∃ f : Nat → Dt → List Dt, ((ds.zipIdx.map fun p => f p.2 p.1).flatten).length ≤ sizeLine ∧
      (∀ i d, ds[i]? = some d → SP K T E X g d vs (wipeG Γ vs) fun Γ2 => vs1.all (noOwn Γ2) = true ∧ EI K T E X ti1 Γ2 fun es => es.length = (f i d).length ∧
        ∀ (j : Nat) (e : Dt), es[j]? = some e → SP K T E X g1 e vs1 (wipeG Γ2 vs1) fun Γ3 => EX K T E X te Γ3 fun y => (f i d)[j]? = some y) ∧
      A (ds.zipIdx.map fun p => f p.2 p.1).flatten) : EL K T E X (tLc2 ti g tYes ti1 g1 tYes te vs vs1) Γ A := fun S0 J σ H r xo Q q =>
  h S0 J σ H r xo _ fun I ds H1 ⟨f, hz, hs, hd⟩ r1 n1 ⟨G, Y, w, hG, hY⟩ D hD => by
    have x1 := xo.nx n1
    have hDJ : ¬ J D := fun z => r1.wf D (r1.js D z) (.of hD)
    have nD : Nx T J H1 (upd H1 D (.lst [])) := .new hD noT_lst
    have rD : Rel K T S0 J Γ σ (upd H1 D (.lst [])) := r1.nx (.new hD noT_lst)
    have r0 : Rel K T (Rj S0 D) J Γ σ (upd H1 D (.lst [])) := r1.avoid rD (.of hD) (fun z => z _ upd_same noT_lst) nD
    have cut : ∀ {Hc : Hp}, Nx T (Rj J D) (upd H1 D (.lst [])) Hc → Nx T J H1 Hc := fun {Hc} n => ⟨fun b o e no ns => by
      have hb : b ≠ D := fun z => by rw [z, hD] at e; cases e
      exact n.le b o (by rw [upd_ne hb]; exact e) no fun z => z.elim ns hb, fun b z => nD.dom b (n.dom b z), fun t => n.tab (nD.tab t)⟩
    have hJS : ∀ a, Rj J D a → Rj S0 D a := fun a z => z.imp (r.js a) id
    have hSS : ∀ a, J a → Rj (Sx S0 Γ) D a := fun a z => .inl (.inl (r.js a z))
    let fl := fun i : Nat => ((ds.zipIdx.take i).map fun p => f p.2 p.1).flatten
    have fl_s : ∀ {i : Nat} {d : Dt}, ds[i]? = some d → fl (i + 1) = fl i ++ f i d := fun {i d} hd => by
      show ((ds.zipIdx.take (i + 1)).map _).flatten = ((ds.zipIdx.take i).map _).flatten ++ _
      rw [List.take_succ, List.getElem?_zipIdx, hd, List.map_append, List.flatten_append]
      simp
    have fl_e : fl ds.length = (ds.zipIdx.map fun p => f p.2 p.1).flatten := by
      show ((ds.zipIdx.take ds.length).map _).flatten = _
      rw [List.take_of_length_le (by simp)]
    have fl_mono : ∀ k, ∀ i, i + k = ds.length → (fl i).length ≤ (fl ds.length).length := fun k => by
      induction k with
      | zero => intro i hi; rw [show i = ds.length by omega]; exact Nat.le_refl _
      | succ k ih =>
        intro i hi
        have h1 := ih (i + 1) (by omega)
        rw [fl_s (List.getElem?_eq_getElem (show i < ds.length by omega)), List.length_append] at h1
        omega
    have fl_le : ∀ i, i ≤ ds.length → (fl i).length ≤ sizeLine := fun i hi => Nat.le_trans (fl_mono (ds.length - i) i (by omega)) (by rw [fl_e]; exact hz)
    refine ⟨fun i m Hc => m = ds.length - i ∧ i ≤ ds.length ∧ Cst K T J (Rj (Sx S0 Γ) D) D (upd H1 D (.lst [])) (fl i) Hc, ⟨ds.length, by simp, Nat.zero_le _, ⟨[], upd_same, .nil⟩, r0.jr, r0.tb, .refl⟩, ?_⟩
    rintro i m Hc ⟨rfl, hi, c⟩
    have nn := cut c.nx
    have gH := hG Hc (nn.mono fun b z => .inl (r.js b z))
    by_cases hlt : i < ds.length
    · refine .inr ⟨w.goes i Hc hlt gH, fun Hz => Cst K T J (Rj (Sx S0 Γ) D) D (upd H1 D (.lst [])) (fl (i + 1)) Hz, fun H' p' => ⟨ds.length - (i + 1), by omega, rfl, hlt, p'⟩, fun x H' y0 => ?_⟩
      have y := w.yields i Hc x H' hlt gH y0
      have hdd : ds[i]? = some ds[i] := List.getElem?_eq_getElem hlt
      obtain ⟨n3, hx⟩ := hY i ds[i] Hc x H' hdd (nn.mono fun b z => .inl (r.js b z)) y
      have rc : Rel K T (Rj S0 D) J Γ σ Hc := r0.far c.nx hJS c.jr c.tb
      have rw0 : Rel K T (Rj S0 D) J (wipeG Γ vs) (wipe σ vs) Hc := rc.wipe hw
      have sxe : ∀ b, Sx (Rj S0 D) (wipeG Γ vs) b → Rj (Sx S0 Γ) D b := fun b z => by
        rw [Sx.eq (wipeG_owned hw)] at z
        rcases z with (z | z) | z
        · exact .inl (.inl z)
        · exact .inr z
        · exact .inl (.inr z)
      have rx := hx (Sx (Rj S0 D) (wipeG Γ vs)) ⟨fun b u hb nt nb z => by
        rcases sxe b z with z | z
        · exact nb z
        · rw [z, hD] at hb; cases hb⟩ (rw0.live) (nn.mono fun b z => .inl (.inl (r.js b z)))
      have r3 := rw0.nx n3
      have n3' : Nx T J Hc H' := n3.mono fun _ z => z.elim
      have xw : ∀ {H'' : Hp}, Nx T J H1 H'' → XOk K T E X (Rj S0 D) J J H'' := fun n' => (x1.nx n').avoid
      have c3 := c.on hDJ hSS n3' r3.jr r3.tb
      refine hs i ds[i] hdd (Rj S0 D) J (wipe σ vs) H' x r3 (xw (nn.trans n3')) rx _ fun Γ2 σ2 ⟨hw1, a⟩ r4 o4 s4 l4 => ⟨wipe_agree s4 l4, ?_⟩
      unfold tYes
      dsimp only
      rw [if_pos rfl]
      refine a (Rj S0 D) J σ2 H' r4 (xw (nn.trans n3')) _ fun I1 es H4 ⟨hle, hes⟩ r5 n5 ⟨G1, Y1, w1, hG1, hY1⟩ => ?_
      have c5 := c3.on hDJ hSS n5 r5.jr r5.tb
      have n4 : Nx T J H1 H4 := (nn.trans n3').trans n5
      refine ⟨fun j k Hj => k = es.length - j ∧ j ≤ es.length ∧ Cst K T J (Rj (Sx S0 Γ) D) D (upd H1 D (.lst [])) (fl i ++ (f i ds[i]).take j) Hj ∧ Nx T (Rj J D) H4 Hj, ⟨es.length, by simp, Nat.zero_le _, by simpa using c5, .refl⟩, ?_⟩
      rintro j k Hj ⟨rfl, hj, cj, nj⟩
      have mj : Nx T (Sx (Rj S0 D) Γ2) H4 Hj := nj.mono fun b z => .inl (hJS b z)
      have gJ := hG1 Hj mj
      by_cases hlj : j < es.length
      · refine .inr ⟨w1.goes j Hj hlj gJ, fun Hz => Cst K T J (Rj (Sx S0 Γ) D) D (upd H1 D (.lst [])) (fl i ++ (f i ds[i]).take (j + 1)) Hz ∧ Nx T (Rj J D) H4 Hz, fun H'' p' => ⟨es.length - (j + 1), by omega, rfl, hlj, p'.1, p'.2⟩, fun x1 H6 y1 => ?_⟩
        have y1 := w1.yields j Hj x1 H6 hlj gJ y1
        have hee : es[j]? = some es[j] := List.getElem?_eq_getElem hlj
        obtain ⟨n6, hx1⟩ := hY1 j es[j] Hj x1 H6 hee mj y1
        have n6' : Nx T J Hj H6 := n6.mono fun _ z => z.elim
        have rj : Rel K T (Rj S0 D) J Γ2 σ2 Hj := r5.far nj hJS cj.jr cj.tb
        have rwj : Rel K T (Rj S0 D) J (wipeG Γ2 vs1) (wipe σ2 vs1) Hj := rj.wipe hw1
        have rx1 := hx1 (Sx (Rj S0 D) (wipeG Γ2 vs1)) ⟨fun b u hb nt nb z => nb (by rw [Sx.eq (wipeG_owned hw1)] at z; exact z)⟩ rwj.live (nj.mono fun b z => .inl (hJS b z))
        have r6 := rwj.nx n6
        have c6 := cj.on hDJ hSS n6' r6.jr r6.tb
        have nj6 : Nx T J H1 H6 := (cut cj.nx).trans n6'
        refine hes j es[j] hee (Rj S0 D) J (wipe σ2 vs1) H6 x1 r6 (xw nj6) rx1 _ fun Γ3 σ3 a3 r7 o7 s7 l7 => ⟨wipe_agree s7 l7, ?_⟩
        rw [if_pos rfl]
        refine a3 (Rj S0 D) J σ3 H6 r7 (xw nj6) _ fun v d H8 p8 r8 n8 rv => ?_
        have c8 := c6.on hDJ hSS n8 r8.jr r8.tb
        have rv' : Rep K (Rj (Sx S0 Γ) D) H8 v d := rv.sub (.of fun b z => by
          rw [Sx.eq o7, Sx.eq (wipeG_owned hw1), Sx.eq o4, Sx.eq (wipeG_owned hw)]
          rcases z with (z | z) | z
          · exact .inl (.inl z)
          · exact .inr z
          · exact .inl (.inr z))
        obtain ⟨xs, e8, el, c9⟩ := c8.add hDJ (.inr rfl) rv'
        have e9 : fl i ++ (f i ds[i]).take j ++ [d] = fl i ++ (f i ds[i]).take (j + 1) := by
          rw [List.take_succ, p8, List.append_assoc]; rfl
        refine ⟨xs, e8, ?_, by rw [← e9]; exact c9, (((nj.trans (n6'.mono fun _ z => .inl z)).trans (n8.mono fun _ z => .inl z)).trans (Nx.mono (S := fun a => a = D) (.put rfl e8 trivial) fun _ z => .inr z))⟩
        have h2 := fl_le (i + 1) hlt
        rw [fl_s hdd, List.length_append] at h2
        rw [el, List.length_append, List.length_take]
        omega
      · have e : j = es.length := by omega
        subst e
        refine .inl ⟨w1.stops Hj gJ, ?_⟩
        rw [fl_s hdd]
        rw [hle, List.take_length] at cj
        exact cj
    · have e : i = ds.length := by omega
      subst e
      refine .inl ⟨w.stops Hc gH, ?_⟩
      obtain ⟨xs, eD, rl⟩ := c.ex
      have rc : Rel K T (Rj S0 D) J Γ σ Hc := r0.far c.nx hJS c.jr c.tb
      exact q D xs _ Hc (by rw [fl_e]; exact hd) (rc.less (fun a z => .inl z) r.js) (n1.trans nn) (n1.dom D (.of hD)) eD rl
end
/-! ### makers with places and keywords -/
structure CkN (P : Program) (w : World) (K : Fg) (mg : Str → Option Value) (base : Heap) (k : Nat) (x : Str) (C : Addr) (sp : Sp) (n : Nat) (ks : List Str) : Prop where
  ex : ∃ (f : Addr) (fd : FuncData) (ps : List Str), Mk K C f ∧ FnOk P w K mg base (L2.CX P w) k f fd ps sp ∧ mg x = some (.ref C) ∧ KBn K fd ps (n + 1) ks (fun us ws => us ++ ws) (fun vs zs => vs ++ zs)
theorem kbn_kw {K : Fg} {x qual : Str} {params : Arguments} {body : List Stmt} {scope : Scope} {kws : List (Str × V)} {f : Addr} {fd : FuncData} {ps ks : List Str} {n : Nat} (F : FunD K x qual params body scope [] kws f fd) (hk : kws ≠ [])
    (h : ∀ (D : Addr) (doc pm : Value) (an : Option Addr) (cdv ct : Value) (us ws : List Value), us.length = n → ws.length = ks.length → bindArgs (PySem.W.fnOf x qual params body scope .none (.ref D) doc pm an cdv ct) ⟨us, ks.zip ws⟩ = pure (ps.zip (us ++ ws))) :
    KBn K fd ps n ks (fun us ws => us ++ ws) (fun vs zs => vs ++ zs) := by
  obtain ⟨mv, h⟩ := FunD.kbinds0 F n ks [] (fun us _ ws => us ++ ws) hk (fun _ z => nomatch z) (fun r1 _ r3 => r1.append r3) fun D doc pm an cdv ct us mv ws l1 l2 l3 => by
    cases mv with
    | nil => exact h D doc pm an cdv ct us ws l1 l3
    | cons a b => cases l2
  exact h
section
variable {X : Cx} {k j n : Nat} {C : Addr} {x : Str} {sp : Sp} {p pos : Pos} {e : Expr} {es : List Expr} {kws : List Keyword} {t tk : TA} {E : XK} {ks : List Str}
theorem pe_ckN (c : CkN X.prog X.w X.K X.mg X.base k x C sp n ks) (hr : Room j X.A) (hk : k + 1 ≤ j) (hx : Passes (L2.CX X.prog X.w) X E) (hg : Gl X x) (ha : PA X (e :: es) t) (hkw : PK X kws tk)
    (hall : (backToKw pos (keywordEach kws X.env)).all (·.1.isSome) = true := by rfl) (hks : (backToKw pos (keywordEach kws X.env)).filterMap (·.1) = ks := by rfl) (hdb : (x == ("__debug__" : Str)) = false := by decide)
    (he : starEach (e :: es) X.env = (false, eval e X.env) :: starEach es X.env := by rfl) (hpl : ((backTo pos (starEach (e :: es) X.env)).any (·.1) || (backToKw pos (keywordEach kws X.env)).any (·.1.isNone)) = false := by rfl) :
    PE X (.Call (.Name x p) (e :: es) kws pos) (tMakeK C n ks.length sp (fun vs zs => vs ++ zs) E t tk) := by
  obtain ⟨f, fd, ps, M, F, hm, b⟩ := c.ex
  exact pe_makeK M F (hr.mono hk) hg hm b hx ha hkw hall hks hdb he hpl
end
section
variable {K : Fg} {T : Tbl} {E E' : XK} {X : XP} {S0 J : Ad} {H : Hp} {Γ : List Ent} {σ : L2.St} {tr tk : TA} {P : Dt → Prop} {FI : IS}
theorem x_makeN {Cl : Addr} {n m : Nat} (h : EA K T E X tr Γ fun ds => EA K T E X tk Γ fun es => ds.length = n ∧ es.length = m ∧ FI (ds ++ es) (fun fs => P (.obj Cl fs)) X) : EX K T E X (tMakeK Cl n m (spI K T Cl FI) (fun vs zs => vs ++ zs) E tr tk) Γ P := fun S0 J σ H r xo Q q =>
  h S0 J σ H r xo _ fun vs ds H0 h0 r0 n0 rl0 => h0 S0 J σ H0 r0 (xo.nx n0) _ fun zs es H1 ⟨hn, hm, f⟩ r1 n1' rl1 => by
    have n1 := n0.trans n1'
    have rl := RepL.app (rl0.nx (r0.jS n1')) rl1
    refine ⟨by rw [rl0.len]; exact hn, by rw [rl1.len]; exact hm, fun x dx hx hd hne => ?_⟩
    have na : ∀ {S : Ad}, Nx T S H1 (upd H1 dx (.own x)) := fun {S} => .new hd noT_own
    have hx1 : upd H1 dx (.own x) x = none := by rw [upd_ne (Ne.symm hne)]; exact hx
    have nb : ∀ {S : Ad}, Nx T S (upd H1 dx (.own x)) (upd (upd H1 dx (.own x)) x (.ins Cl dx [])) := fun {S} => .new hx1 noT_ins
    have nn : ∀ {S : Ad}, Nx T S H1 (upd (upd H1 dx (.own x)) x (.ins Cl dx [])) := fun {S} => na.trans nb
    have r2 := r1.nx nn
    have hfx : Fre H1 x := .of hx
    refine ⟨Sx S0 Γ, x, dx, vs ++ zs, ds ++ es, _, X, rfl, r1.fresh hfx, upd_same, (rl.sub (Rj.new hfx)).nx nn, r2.live, r2.tb, f, fun H2 xs fs p n2 e rf => ⟨rfl, ?_⟩, ?_⟩
    · have n3 : ∀ {S : Ad}, Nx T S H1 H2 := fun {S} => Nx.cut nn n2 hx
      exact q _ _ H2 p (r1.nx n3) (n1.trans n3) (.obj (r1.fresh hfx) e (rf.sub (.of Rj.sub)))
    · have xc := xo.call r1 n1
      exact fun C' fs xs dx' H3 h1 n3 h2 h3 h4 h5 => xc C' fs xs dx' H3 h1 (Nx.cut nn n3 hx) (nn.dom (S := Non) _ h2) h3 h4 h5
theorem x_makeNP {Cl : Addr} {n m : Nat} (h : EA K T E X tr Γ fun ds => EA K T E X tk Γ fun es => ds.length = n ∧ es.length = m ∧ FI (ds ++ es) (fun fs => P (.obj Cl fs)) noX) : EX K T E X (tMakeK Cl n m (spI K T Cl FI) (fun vs zs => vs ++ zs) E' tr tk) Γ P := fun S0 J σ H r xo Q q =>
  h S0 J σ H r xo _ fun vs ds H0 h0 r0 n0 rl0 => h0 S0 J σ H0 r0 (xo.nx n0) _ fun zs es H1 ⟨hn, hm, f⟩ r1 n1' rl1 => by
    have n1 := n0.trans n1'
    have rl := RepL.app (rl0.nx (r0.jS n1')) rl1
    refine ⟨by rw [rl0.len]; exact hn, by rw [rl1.len]; exact hm, fun x dx hx hd hne => ?_⟩
    have na : ∀ {S : Ad}, Nx T S H1 (upd H1 dx (.own x)) := fun {S} => .new hd noT_own
    have hx1 : upd H1 dx (.own x) x = none := by rw [upd_ne (Ne.symm hne)]; exact hx
    have nb : ∀ {S : Ad}, Nx T S (upd H1 dx (.own x)) (upd (upd H1 dx (.own x)) x (.ins Cl dx [])) := fun {S} => .new hx1 noT_ins
    have nn : ∀ {S : Ad}, Nx T S H1 (upd (upd H1 dx (.own x)) x (.ins Cl dx [])) := fun {S} => na.trans nb
    have r2 := r1.nx nn
    have hfx : Fre H1 x := .of hx
    refine ⟨Sx S0 Γ, x, dx, vs ++ zs, ds ++ es, _, noX, rfl, r1.fresh hfx, upd_same, (rl.sub (Rj.new hfx)).nx nn, r2.live, r2.tb, f, fun H2 xs fs p n2 e rf => ⟨rfl, ?_⟩, .none⟩
    have n3 : ∀ {S : Ad}, Nx T S H1 H2 := fun {S} => Nx.cut nn n2 hx
    exact q _ _ H2 p (r1.nx n3) (n1.trans n3) (.obj (r1.fresh hfx) e (rf.sub (.of Rj.sub)))
end
end Lp

set_option Elab.async false
set_option linter.all false
set_option maxRecDepth 100000
set_option maxHeartbeats 4000000
/-! L31: name += e; == with a text; small. Own work. -/
namespace Lp
open PySem PySem.Spec PyProof.Rows L2 LamX
section
variable {K : Fg} {T : Tbl} {E E' : XK} {X : XP} {S S' S0 J O O' : Ad} {H H1 H2 : Hp} {Γ Γ1 Γ' : List Ent} {σ σ' : L2.St}
variable {N N' : List Ent → Prop} {R : Rt → List Ent → Prop} {B C : List Ent → Prop} {ts tu tb' : TS} {te ta tb tc : TE} {tt : TT} {tr : TA} {P : Dt → Prop} {A : List Dt → Prop} {ti : TI} {F : FS} {FI : IS}
theorem s_augI {i : Nat} {f : Int → Int → Int} {a : Int} (hx : Γ[i]? = some (.val (.int a))) (h : EX K T E X te Γ fun d => ∃ b : Int, d = .int b ∧ N (Γ.set i (.val (.int (f a b))))) : SW K T E X (tAug i te (ipI f)) Γ N R B C := fun S0 J σ H r xo D n rt b c => by
  have hl : i < σ.length := by rw [r.len]; exact (List.getElem?_eq_some_iff.mp hx).1
  have q := r.at_ i σ[i] _ (List.getElem?_eq_getElem hl) hx
  obtain ⟨v, e1, e2⟩ := q
  cases e2
  refine ⟨.int a, by rw [List.getElem?_eq_getElem hl, e1], h S0 J σ H r xo.ex _ fun v d H1 ⟨b', ed, p⟩ r1 n1 rv => ?_⟩
  subst ed
  cases rv
  exact ⟨a, b', rfl, rfl, n _ _ H1 p (r1.setV (.int _)) ((r.go n1).trans Go.setV)⟩
end
def isS (d : Dt) (s : Str) : Bool := match d with
  | .str t => decide (t = s)
  | _ => false
theorem eqD_str {d : Dt} {s : Str} : eqD d (.str s) = isS d s := by
  cases d <;> first | exact eqD_S | (simp only [eqD, toPy, isS, PyData.eqv])
end Lp

set_option Elab.async false
set_option linter.all false
set_option maxRecDepth 100000
set_option maxHeartbeats 4000000
/-! L32: comprehensions with a test; data's kinds; parts of data. Own work. -/
namespace Lp
open PySem PySem.Spec PyProof.Rows L2 LamX
theorem take_filt {α β : Type} {f : α → β} {p : α → Bool} {l : List α} {i : Nat} {r : α} (h : l[i]? = some r) : ((l.take (i + 1)).filter p).map f = ((l.take i).filter p).map f ++ (if p r = true then [f r] else []) := by
  rw [List.take_add_one, h, List.filter_append, List.map_append]
  cases hp : p r <;> simp [hp]
section
variable {K : Fg} {T : Tbl} {E : XK} {X : XP} {Γ : List Ent} {te : TE} {tt : TT} {ti : TI} {g : TG} {vs : List Nat} {A : List Dt → Prop}
/-- [e for .. in .. if t]: the test says pb x, from item x comes h x -/
theorem l_filt {α : Type} {f h : α → Dt} {pb : α → Bool} (hv : vs.all (noOwn Γ) = true) (hti : EI K T E X ti Γ fun ds => ∃ xs : List α, ds = xs.map f ∧ xs.length ≤ sizeLine ∧ (∀ x ∈ xs, SP K T E X g (f x) vs (wipeG Γ vs) fun Γ2 => ET K T E X tt Γ2 fun b => b = pb x ∧ (pb x = true → EX K T E X te Γ2 fun y => y = h x)) ∧ A ((xs.filter pb).map h)) :
    EL K T E X (tLc ti g tt te vs) Γ A := by
  refine l_lc hv ?_
  intro S0 J σ H r xo R q
  refine hti S0 J σ H r xo R fun I ds H1 ⟨xs, e, hl, hx, a⟩ => q I ds H1 ⟨?_, fun i acc => acc = ((xs.take i).filter pb).map h, rfl, fun i d acc hd _ iv => ?_, fun acc _ iv => ?_⟩
  · rw [e, List.length_map]; exact hl
  · subst e
    obtain ⟨x, hxi, rfl⟩ := map_get hd
    intro S1 J1 σ1 H2 v r1 xo1 rv Q q1
    refine hx x (List.mem_of_getElem? hxi) S1 J1 σ1 H2 v r1 xo1 rv Q fun Γ' σ' ex r2 o s l => q1 Γ' σ' ?_ r2 o s l
    refine ex.imp fun b ⟨eb, ey⟩ => ⟨fun z => ?_, fun z => ?_⟩
    · rw [eb] at z
      refine (ey z).imp fun y e => ?_
      show acc ++ [y] = ((xs.take (i + 1)).filter pb).map h
      rw [take_filt hxi, z, e, show acc = _ from iv]; rfl
    · rw [eb] at z
      show acc = ((xs.take (i + 1)).filter pb).map h
      rw [take_filt hxi, z, show acc = _ from iv]; simp
  · have : acc = ((xs.take ds.length).filter pb).map h := iv
    rw [e, List.length_map, List.take_length] at this
    rw [this]; exact a
end
/-! ### data that are plain -/
theorem dok_ty {Cs : List Addr} {n : Nat} {d : Dt} (h : dOk n d) : TyK Cs d := by
  cases d with
  | obj C fs => exact absurd h.1.1 (by simp [plainB])
  | _ => trivial
theorem dok_part {n : Nat} {b : Bool} {l : List Dt} {x : Dt} (h : dOk (n + 1) (sqD b l)) (hx : x ∈ l) : dOk n x := by
  obtain ⟨i, hi⟩ := List.getElem?_of_mem hx
  obtain ⟨h1, h2⟩ := okd_item h.1 h.2.2 hi
  refine ⟨h1, ?_, h2⟩
  have hz := h.2.1
  have key : ∀ {l : List Dt}, szL l = true → x ∈ l → szB x = true := by
    intro l
    induction l with
    | nil => intro _ z; cases z
    | cons y l ih =>
      intro hl z
      simp only [szL, Bool.and_eq_true] at hl
      rcases List.mem_cons.mp z with e | z
      · rw [e]; exact hl.1
      · exact ih hl.2 z
  cases b with
  | true => have hz : szB (.lst l) = true := hz; simp only [szB, Bool.and_eq_true] at hz; exact key hz.2 hx
  | false => have hz : szB (.tup l) = true := hz; simp only [szB, Bool.and_eq_true] at hz; exact key hz.2 hx
theorem dok_len {n : Nat} {b : Bool} {l : List Dt} (h : dOk n (sqD b l)) : l.length ≤ 100000 := by
  have hz := h.2.1
  cases b with
  | true => have hz : szB (.lst l) = true := hz; simp only [szB, Bool.and_eq_true] at hz; exact of_decide_eq_true hz.1
  | false => have hz : szB (.tup l) = true := hz; simp only [szB, Bool.and_eq_true] at hz; exact of_decide_eq_true hz.1
theorem dok_pos {n : Nat} {b : Bool} {l : List Dt} (h : dOk n (sqD b l)) : 0 < n := by
  have hz := h.2.2
  cases b with
  | true => have hz : (toPy (.lst l)).depth ≤ n := hz; simp only [toPy, PyData.depth] at hz; omega
  | false => have hz : (toPy (.tup l)).depth ≤ n := hz; simp only [toPy, PyData.depth] at hz; omega
theorem dok_partN {n : Nat} {b : Bool} {l : List Dt} {x : Dt} (h : dOk n (sqD b l)) (hx : x ∈ l) : dOk (n - 1) x := by
  have := dok_pos h
  obtain ⟨m, rfl⟩ : ∃ m, n = m + 1 := ⟨n - 1, by omega⟩
  exact dok_part h hx
theorem dok_parts {n : Nat} {b : Bool} {l : List Dt} {x : Dt} (h : dOk n (sqD b l)) (hx : x ∈ l) : dOk n x := dok_mono (dok_partN h hx) (by omega)
theorem dok_strl {n : Nat} {s : Str} (h : dOk n (.str s)) : strOkB s = true := by
  have h1 := h.1.2
  have h2 : decide (s.length ≤ 100000) = true := h.2.1
  unfold strOkB
  rw [h2, Bool.and_true]
  simpa [SeqAt.shaped, toPy, PyData.depth] using h1
theorem dok_slen {n : Nat} {s : Str} (h : dOk n (.str s)) : s.length ≤ sizeLine := small (of_decide_eq_true h.2.1)
section
variable {K : Fg} {T : Tbl} {E : XK} {X : XP} {Γ : List Ent}
/-- names for a list's items -/
theorem p_lst {gs : TGs} {ds : List Dt} {n : Nat} {G : List Ent → Prop} {L : List Nat} (hn : ds.length = n) (h : SPs K T E X gs ds L Γ G) : SP K T E X (gLst K n gs) (.lst ds) L Γ G := fun S0 J σ H v r xo rv Q q => by
  cases rv with
  | lst hs rl => exact ⟨_, _, rfl, hs.sq, by rw [rl.len]; exact hn, h S0 J σ H _ r xo rl Q q⟩
end
end Lp

set_option Elab.async false
set_option linter.all false
set_option maxRecDepth 100000
set_option maxHeartbeats 4000000
/-! k04F: what each def is to keep. Own work. -/
namespace Lp.Q
open PySem PySem.Spec PyProof.Rows L2 LamX Lp
def lbs : List Str := ["always", "session", "statement", "changing"]
def lb (r : Nat) : Str := lbs.getD r ""
/-- the label of rank r (0: always) -/
def labD (K : Fg) (r : Nat) : Dt := .obj (He.ga K "Label") [("name", .str (lb r)), ("height", .int (3 - (r : Nat)))]
def isLab : Dt → Bool
  | .str s => decide (s ∈ lbs)
  | _ => false
def letters : Str := "abcdefghijklmnopqrstuvwxyz"
/-- data without objects and dicts, not deep -/
abbrev Gd (d : Dt) : Prop := dOk 40 d
def intB' : Dt → Bool
  | .int _ => true
  | _ => false
def btwB (d : Dt) (a b : Int) : Bool := match d with
  | .int i => decide (a ≤ i) && decide (i ≤ b)
  | _ => false
def isNmB : Dt → Bool
  | .str s => (decide ((1 : Int) ≤ (s.length : Nat)) && decide (((s.length : Nat) : Int) ≤ 8)) && s.cps.toList.all fun c => decide (c ∈ letters.cps.toList)
  | _ => false
/-- the part at place i of a tuple -/
def prt (d : Dt) (i : Nat) : Dt := match d with
  | .tup l => l.getD i .non
  | _ => .non
def kindB (d : Dt) (k : Str) (n : Nat) : Bool := match d with
  | .tup l => decide (((l.length : Nat) : Int) = (n : Nat)) && isS (l.getD 0 .non) k
  | _ => false
/-- the terms of which a term is made -/
def innD (d : Dt) : List Dt := match d with
  | .tup l => if isS (l.getD 0 .non) "call" then (match l.getD 2 .non with | .tup as => as | _ => []) else
      if isS (l.getD 0 .non) "plus" || isS (l.getD 0 .non) "less" || isS (l.getD 0 .non) "same" || isS (l.getD 0 .non) "if" then l.tail else []
  | _ => []
def isTupLe (d : Dt) (n : Nat) : Bool := match d with
  | .tup l => decide (l.length ≤ n)
  | _ => false
/-- the outermost part is one of a term -/
def formB (a : Int) (d : Dt) : Bool :=
  if btwB d 0 2 || kindB d "tick" 1 then true
  else if kindB d "arg" 2 then btwB (prt d 1) 0 (a - 1)
  else if kindB d "cell" 2 then isNmB (prt d 1)
  else if kindB d "call" 3 then isNmB (prt d 1) && isTupLe (prt d 2) 2
  else (kindB d "plus" 3 || kindB d "less" 3 || kindB d "same" 3) || kindB d "if" 4
def bfs (a : Int) : Nat → List Dt → Nat → Bool
  | 0, _, _ => false
  | n + 1, layer, parts => if decide (30 < parts + layer.length) || !(layer.all (formB a)) then false else
      if layer.flatMap innD = [] then true else bfs a n (layer.flatMap innD) (parts + layer.length)
def termB (a : Int) (d : Dt) : Bool := bfs a 8 [d] 0
def frmB : Nat → Int → Dt → Bool
  | 0, _, _ => false
  | n + 1, a, d => formB a d && (innD d).all (frmB n a)
def szT : Nat → Dt → Nat
  | 0, _ => 0
  | n + 1, d => 1 + ((innD d).map (szT n)).sum
def dpT : Nat → Dt → Nat
  | 0, _ => 0
  | n + 1, d => 1 + ((innD d).map (dpT n)).foldl max 0
def itemsD : Dt → List Dt
  | .lst l => l
  | .tup l => l
  | _ => []
def isSeq : Dt → Bool
  | .lst _ => true
  | .tup _ => true
  | _ => false
def rowB (d : Dt) : Bool := match d with
  | .tup l => decide (((l.length : Nat) : Int) = 2) && isNmB (l.getD 0 .non)
  | _ => false
/-- no text twice -/
def onceB (l : List Dt) : Bool := (List.range l.length).all fun i => !((l.take i).any fun z => eqD z (l.getD i .non))
def wrB (d : Dt) : Bool := isSeq d && decide ((itemsD d).length ≤ 3) && (itemsD d).all rowB && onceB ((itemsD d).map fun r => prt r 0)
/-- the term of the first write that is none -/
def badW (a : Int) : List Dt → Option Dt
  | [] => none
  | r :: rs => if termB a (prt r 1) then badW a rs else some (prt r 1)
def labA (K : Fg) (d : Dt) : Prop := Gd d ∨ ∃ r, r < 4 ∧ d = labD K r
def isLabA : Dt → Bool
  | .obj _ _ => true
  | d => isLab d
def intOf : Dt → Int
  | .int i => i
  | _ => 0
/-- what is refused first, and what is kept -/
def refu (name many result label writes cost : Dt) : Option (Str × Dt) :=
  if !isNmB name then some ("BadPart", .str "name")
  else if !btwB many 0 2 then some ("BadPart", .str "arguments")
  else if !isLabA label then some ("BadLabel", label)
  else if !termB (intOf many) result then some ("BadTerm", result)
  else if !wrB writes then some ("BadPart", .str "writes")
  else match badW (intOf many) (itemsD writes) with
    | some t => some ("BadTerm", t)
    | none => if btwB cost 0 99 then none else some ("BadPart", .str "cost")
def exF (c : Str) : Str := if c = "BadPart" then "part" else if c = "BadLabel" then "label" else "term"
def WrA (d : Dt) : Prop := Gd d ∨ d = .dct []
def LabIs (K : Fg) (d : Dt) (r : Nat) : Prop := d = .str (lb r) ∨ d = labD K r
def funF (K : Fg) (name many result : Dt) (r : Nat) (ws : List Dt) (cost : Dt) : List (Str × Dt) :=
  [("label", labD K r), ("name", name), ("arguments", many), ("result", result), ("writes", .tup ws), ("cost", cost)]
def funO (K : Fg) (name many result : Dt) (r : Nat) (ws : List Dt) (cost : Dt) : Dt := .obj (He.ga K "Function") (funF K name many result r ws cost)
/-- six arguments -/
def Six (K : Fg) (n m r l w c : Dt) : Prop := Gd n ∧ Gd m ∧ Gd r ∧ labA K l ∧ WrA w ∧ Gd c
/-- what a maker tells: refused, or made -/
def Mks (K : Fg) (n m r l w c : Dt) (X : XP) (Q : Nat → Prop) : Prop := (∀ z x, refu n m r l w c = some (z, x) → X (He.ga K z) [(exF z, x)]) ∧ (refu n m r l w c = none → ∀ k, k < 4 → LabIs K l k → Q k)
/-! ### the library's -/
def F_is_integer (K : Fg) : FS := fun ds P X => ∃ d, ds = [d] ∧ Gd d ∧ P (.val (.bl (intB' d)))
def F_is_between (K : Fg) : FS := fun ds P X => ∃ d a b, ds = [d, .int a, .int b] ∧ Gd d ∧ P (.val (.bl (btwB d a b)))
def F_is_value (K : Fg) : FS := fun ds P X => ∃ d, ds = [d] ∧ Gd d ∧ P (.val (.bl (btwB d 0 2)))
def F_is_name (K : Fg) : FS := fun ds P X => ∃ d, ds = [d] ∧ Gd d ∧ P (.val (.bl (isNmB d)))
def F_has_kind (K : Fg) : FS := fun ds P X => ∃ d k, ∃ n : Nat, ds = [d, .str k, .int (n : Nat)] ∧ Gd d ∧ strOkB k = true ∧ 1 ≤ n ∧ P (.val (.bl (kindB d k n)))
def F_inner_terms (K : Fg) : FS := fun ds P X => ∃ d a, ds = [d] ∧ Gd d ∧ formB a d = true ∧ P (.val (.tup (innD d)))
def F_has_form (K : Fg) : FS := fun ds P X => ∃ d a, ds = [d, .int a] ∧ Gd d ∧ P (.val (.bl (formB a d)))
def F_is_term (K : Fg) : FS := fun ds P X => ∃ d a, ds = [d, .int a] ∧ Gd d ∧ P (.val (.bl (termB a d)))
def F_is_label_name (K : Fg) : FS := fun ds P X => ∃ d, ds = [d] ∧ Gd d ∧ P (.val (.bl (isLab d)))
def F_Label___init (K : Fg) : IS := fun ds P X => ∃ d, ds = [d] ∧ Gd d ∧ (isLab d = false → X (He.ga K "BadLabel") [("label", d)]) ∧ ∀ r, r < 4 → d = .str (lb r) → P [("name", .str (lb r)), ("height", .int (3 - (r : Nat)))]
def F_made_label (K : Fg) : FS := fun ds P X => ∃ d, ds = [d] ∧ labA K d ∧ (isLabA d = false → X (He.ga K "BadLabel") [("label", d)]) ∧ ∀ r, r < 4 → LabIs K d r → P (.val (labD K r))
def F_are_writes (K : Fg) : FS := fun ds P X => ∃ d, ds = [d] ∧ WrA d ∧ P (.val (.bl (wrB d)))
def F_Function___init (K : Fg) : IS := fun ds P X => ∃ n m r l w c, ds = [n, m, r, l, w, c] ∧ Six K n m r l w c ∧ Mks K n m r l w c X fun k => P (funF K n m r k (itemsD w) c)
def F_Function_with_parts (K : Fg) : FS := fun ds P X => ∃ n m r0 k0 ws0 c0 r l w c, ds = [funO K n m r0 k0 ws0 c0, r, l, w, c] ∧ Six K n m r l w c ∧ Mks K n m r l w c X fun k => P (.val (funO K n m r k (itemsD w) c))
def F_Function_labelled (K : Fg) : FS := fun ds P X => ∃ n m r k0 ws c l, ds = [funO K n m r k0 ws c, l] ∧ Six K n m r l (.tup ws) c ∧ Mks K n m r l (.tup ws) c X fun k => P (.val (funO K n m r k ws c))
def F_Function_changed (K : Fg) : FS := fun ds P X => ∃ n m r k0 ws c p d, ds = [funO K n m r k0 ws c, .str p, d] ∧ k0 < 4 ∧ (
  (p = "result" ∧ Six K n m d (labD K k0) (.tup ws) c ∧ Mks K n m d (labD K k0) (.tup ws) c X fun k => P (.val (funO K n m d k ws c))) ∨
  (p = "writes" ∧ Six K n m r (labD K k0) d c ∧ Mks K n m r (labD K k0) d c X fun k => P (.val (funO K n m r k (itemsD d) c))) ∨
  (p = "cost" ∧ Six K n m r (labD K k0) (.tup ws) d ∧ Mks K n m r (labD K k0) (.tup ws) d X fun k => P (.val (funO K n m r k ws d))))
/-! ### the law's -/
def F_law_lo_is_whole (K : Fg) : FS := F_is_between K
def F_law_lo_is_name (K : Fg) : FS := F_is_name K
def F_law_lo_arms (K : Fg) : FS := fun ds P X => ∃ d a, ds = [d] ∧ Gd d ∧ formB a d = true ∧ P (.val (.lst (innD d)))
def F_law_lo_size : Nat → Fg → FS
  | 0, _ => fun _ _ _ => False
  | n + 1, _ => fun ds P X => ∃ d a, ds = [d] ∧ Gd d ∧ frmB (n + 1) a d = true ∧ n < 24 ∧ P (.val (.int (szT (n + 1) d : Nat)))
def F_law_lo_depth : Nat → Fg → FS
  | 0, _ => fun _ _ _ => False
  | n + 1, _ => fun ds P X => ∃ d a, ds = [d] ∧ Gd d ∧ frmB (n + 1) a d = true ∧ n < 24 ∧ P (.val (.int (dpT (n + 1) d : Nat)))
def F_law_lo_is_formed : Nat → Fg → FS
  | 0, _ => fun _ _ _ => False
  | n + 1, _ => fun ds P X => ∃ d a, ∃ e : Int, ds = [d, .int a, .int e] ∧ dOk n d ∧ n < 24 ∧ (n : Int) < e ∧ P (.val (.bl (frmB (n + 1) a d)))
def F_law_lo_is_term (K : Fg) : FS := fun ds P X => ∃ d a, ds = [d, .int a] ∧ dOk 23 d ∧ P (.val (.bl (termB a d)))
def F_law_lo_labels (K : Fg) : FS := fun ds P X => ds = [] ∧ P (.new (lbs.map .str))
def tellD : Option (Str × Dt) → Dt → Dt
  | some (z, x), _ => .tup [.str z, x]
  | none, d => d
/-- as six arguments, of the law: terms not as deep -/
def SixL (K : Fg) (n m r l w c : Dt) : Prop := dOk 20 n ∧ dOk 20 m ∧ dOk 20 r ∧ (dOk 20 l ∨ ∃ k, k < 4 ∧ l = labD K k) ∧ (dOk 22 w ∨ w = .dct []) ∧ dOk 20 c
def F_law_is_writes (K : Fg) : FS := F_are_writes K
def F_law_owed (K : Fg) : FS := fun ds P X => ∃ n m r l w c, ds = [n, m, r, l, w, c] ∧ SixL K n m r l w c ∧ P (.val (tellD (refu n m r l w c) .non))
def F_law_is_refused (K : Fg) : FS := fun ds P X => ∃ w d, ds = [.tup [.str w, d], .str w, d] ∧ strOkB w = true ∧ Gd d ∧ P (.val (.bl true))
def F_law_deep (K : Fg) : JS := fun ds P => ∃ m : Nat, ds = [.int (m : Nat)] ∧ 1 ≤ m ∧ m ≤ 9 ∧ ∀ t, dOk (2 * m) t → P (.val t)
def F_law_wide (K : Fg) : FS := fun ds P X => ∃ m : Nat, ds = [.int (m : Nat)] ∧ 1 ≤ m ∧ m ≤ 31 ∧ ∀ t, dOk 16 t → P (.val t)
def F_law_terms (K : Fg) : JS := fun ds P => ∃ a : Int, ds = [.int a] ∧ ∀ ts, (∀ t ∈ ts, dOk 19 t) → ts ≠ [] → ts.length ≤ 100 → P (.val (.lst ts))
def OddsOk (K : Fg) (O : List (List Dt)) : Prop := ∃ o0 o1 o2 o3 o4 o5, O = [o0, o1, o2, o3, o4, o5] ∧ (∀ o ∈ O, o ≠ [] ∧ o.length ≤ 100) ∧ (∀ d ∈ o0, dOk 20 d) ∧ (∀ d ∈ o1, dOk 20 d) ∧ (∀ d ∈ o2, dOk 20 d) ∧ (∀ d ∈ o3, dOk 20 d ∨ ∃ k, k < 4 ∧ d = labD K k) ∧ (∀ d ∈ o4, dOk 22 d ∨ d = .dct []) ∧ (∀ d ∈ o5, dOk 20 d)
def F_law_odds (K : Fg) : JS := fun ds P => ∃ a : Int, ds = [.int a] ∧ ∀ O, OddsOk K O → P (.val (.lst (O.map .lst)))
def goodD (a : Int) : List Dt := [.str "f", .int a, .tup [.str "plus", .int 1, .tup [.str "cell", .str "z"]], .str "changing", .lst [.tup [.str "z", .int 1], .tup [.str "y", .tup [.str "tick"]]], .int 7]
def madeD (K : Fg) (a : Int) : Dt := funO K (.str "f") (.int a) (.tup [.str "plus", .int 1, .tup [.str "cell", .str "z"]]) 3 [.tup [.str "z", .int 1], .tup [.str "y", .tup [.str "tick"]]] (.int 7)
def F_law_heard_function (K : Fg) : FS := fun ds P X => ∃ n m r l w c, ds = [.lst [n, m, r, l, w, c]] ∧ Six K n m r l w c ∧ P (.val (tellD (refu n m r l w c) (.tup [.str "told", n])))
def F_law_row_right (K : Fg) : FS := fun ds P X => ∃ n m r l w c, ds = [.lst [n, m, r, l, w, c]] ∧ SixL K n m r l w c ∧ P (.val (.bl true))
def F_law_heard_term (K : Fg) : FS := fun ds P X => ∃ d a, ds = [d, .int a] ∧ Gd d ∧ P (.val (.tup [.str "told", .bl (termB a d)]))
def F_law_heard_changed (K : Fg) : FS := fun ds P X => ∃ n m r k0 ws c p d, ds = [funO K n m r k0 ws c, .str p, d] ∧ k0 < 4 ∧ (
  (p = "result" ∧ Six K n m d (labD K k0) (.tup ws) c ∧ P (.val (tellD (refu n m d (labD K k0) (.tup ws) c) (.tup [.str "told", n])))) ∨
  (p = "writes" ∧ Six K n m r (labD K k0) d c ∧ P (.val (tellD (refu n m r (labD K k0) d c) (.tup [.str "told", n])))) ∨
  (p = "cost" ∧ Six K n m r (labD K k0) (.tup ws) d ∧ P (.val (tellD (refu n m r (labD K k0) (.tup ws) d) (.tup [.str "told", n])))))
def F_law_heard_labelled (K : Fg) : FS := fun ds P X => ∃ n m r k0 ws c l, ds = [funO K n m r k0 ws c, l] ∧ Six K n m r l (.tup ws) c ∧ P (.val (tellD (refu n m r l (.tup ws) c) (.tup [.str "told", n])))
def F_law_changes_right (K : Fg) : JS := fun ds P => ∃ a O, ds = [madeD K a, .lst (goodD a), .lst (O.map .lst)] ∧ 0 ≤ a ∧ a ≤ 2 ∧ OddsOk K O ∧ P (.val (.bl true))
def F_law_function_right (K : Fg) : JS := fun ds P => ds = [] ∧ P (.val (.bl true))
/-! ### the law's own helps -/
def F_law_pool (K : Fg) : FS := fun ds P X => ∃ ns : List Int, ds = [.lst (ns.map .int)] ∧ ns.length ≤ 1000 ∧ (∀ n ∈ ns, Builtin.Int.intBits n ≤ 1048576) ∧ ∀ a b c, 0 ≤ b → b < 2147483647 → P (.new (intsD [a, b, c]))
def F_law_take (K : Fg) : JS := fun ds P => ∃ m : Int, ds = [.int m] ∧ 0 < m ∧ m < 2 ^ 62 ∧ ∀ i : Int, 0 ≤ i → i < m → P (.val (.int i))
def F_law_one (K : Fg) : JS := fun ds P => ∃ b xs, ds = [sqD b xs] ∧ xs ≠ [] ∧ xs.length ≤ 1000 ∧ ∀ x ∈ xs, P (.val x)
def F_law_yq_is_whole (K : Fg) : FS := fun ds P X => ∃ d, ds = [d] ∧ TyK [] d ∧ P (.val (.bl (intB d)))
def F_law_yq_same : Nat → Fg → FS
  | 0, _ => fun _ _ _ => False
  | n + 1, _ => fun ds P X => ∃ d, ds = [d, d] ∧ Okd d ∧ szB d = true ∧ (toPy d).depth ≤ n ∧ P (.val (.bl true))
def F_law (K : Fg) : FS := fun ds P X => ∃ ns : List Int, ds = [.lst (ns.map .int)] ∧ ns.length ≤ 1000 ∧ (∀ n ∈ ns, Builtin.Int.intBits n ≤ 1048576) ∧ P (.val (.bl true))
end Lp.Q

set_option Elab.async false
set_option linter.all false
set_option maxRecDepth 100000
set_option maxHeartbeats 4000000
/-! the readings, printed by gen2.py. Own work. -/
namespace Lp.Q
open PySem PySem.Spec PyProof.Rows L2 LamX Lp
def topS (i : Nat) : Stmt := PySem.Challenge.pw_looseties_k04_functions_refused_in_order.main.body.getD i (.Pass ⟨0, 0, 0, 0⟩)
def inClass (s : Stmt) (i : Nat) : Stmt := match s with
  | .ClassDef _ _ _ b _ _ _ _ _ _ _ => b.getD i (.Pass ⟨0, 0, 0, 0⟩)
  | _ => .Pass ⟨0, 0, 0, 0⟩
def tf : List He.Defn := [("_law_heard_term", none), ("_law_heard_labelled", none), ("_law_heard_changed", none), ("_law_heard_function", none), ("_law_function_right", none)]
abbrev tabs (K : Fg) : Tbl := tabsOf tf K
def Cs (K : Fg) : List Addr := [He.ga K "Label", He.ga K "Function"]
def fC_name (K : Fg) : List Addr := [He.ga K "Label", He.ga K "Function"]
def fC_arguments (K : Fg) : List Addr := [He.ga K "Function"]
def fC_result (K : Fg) : List Addr := [He.ga K "Function"]
def fC_label (K : Fg) : List Addr := [He.ga K "Function"]
def fC_writes (K : Fg) : List Addr := [He.ga K "Function"]
def fC_cost (K : Fg) : List Addr := [He.ga K "Function"]
def fC_height (K : Fg) : List Addr := [He.ga K "Label"]
def hL (K : Fg) : List HCl := [(He.ga K "BadLabel", "BadLabel", some "label"), (He.ga K "BadPart", "BadPart", some "part"), (He.ga K "BadTerm", "BadTerm", some "term"), (He.ga K "StoreError", "another", none)]
abbrev st_law_pool : Stmt := (topS 35)
def d_law_pool : He.DefD := ⟨("_law_pool", none), "_law_pool", "_law_pool", defArgs st_law_pool, defBody st_law_pool, defScope st_law_pool, [], []⟩
def sp_law_pool (K : Fg) : Sp := spD K (tabs K) (F_law_pool K)
def t_law_pool (K : Fg) (E : XK) : TS := (tSeq (tAsg (tTup (tCons (tC (.int 0)) (tCons (tC (.int 7)) tNil))) (gTup K 2 (gCons (gName 1) (gCons (gName 2) gNil))))
    (tSeq (tFor (iRng1 (tCons (tCB (uLen K) (tCons (tVar 0) tNil)) tNil)) (gName 3) (tSeq (tAsg (tCB uMax2 (tCons (tCB (uInt) (tCons (tOp (rIx K) (tVar 0) (tVar 3)) tNil)) (tCons (tCB (uInt) (tCons (tOp uSub (tUn (rU fun i => .int (-i)) (tC (.int 1))) (tOp (rIx K) (tVar 0) (tVar 3))) tNil)) tNil))) (gName 4))
    (tSeq (tAsg (tOp uMod (tCB (uInt) (tCons (tOp (uAdd K) (tOp (uAdd K) (tOp uMul (tVar 2) (tC (.int 48271))) (tOp uMod (tVar 4) (tC (.int 2147483629)))) (tC (.int 11))) tNil)) (tC (.int 2147483647))) (gName 2))
    (tAsg (tIf (tAnd (tTest (tOp uGe (tVar 4) (tOp uPow (tC (.int 10)) (tC (.int 12))))) (tTest (tOp (vLt K) (tVar 1) (tOp uPow (tC (.int 10)) (tC (.int 60)))))) (tCB (uInt) (tCons (tOp (uAdd K) (tOp uMul (tVar 1) (tOp uPow (tC (.int 10)) (tC (.int 60)))) (tOp uMod (tVar 4) (tOp uPow (tC (.int 10)) (tC (.int 60))))) tNil)) (tVar 1)) (gName 1)))))
    (tRet (tLst (tCons (tVar 1) (tCons (tVar 2) (tCons (tC (.int 0)) tNil)))))))
abbrev st_law_take : Stmt := (topS 36)
def d_law_take : He.DefD := ⟨("_law_take", none), "_law_take", "_law_take", defArgs st_law_take, defBody st_law_take, defScope st_law_take, [], []⟩
def sp_law_take (K : Fg) : Sp := spJ K (tabs K) (F_law_take K)
def t_law_take (K : Fg) (E : XK) : TS := (tSeq (tIfS (tTest (tOp uGt (tOp (rIx K) (tVar 0) (tC (.int 0))) (tC (.int 0)))) (tSeq (tAsg (tOp uMod (tCB (uInt) (tCons (tOp (rIx K) (tVar 0) (tC (.int 0))) tNil)) (tVar 1)) (gName 2))
    (tSeq (tAsg (tOp uFdiv (tOp (rIx K) (tVar 0) (tC (.int 0))) (tVar 1)) (gSub (tVar 0) (tC (.int 0)) rSetL))
    (tRet (tVar 2)))) tNext)
    (tSeq (tAsg (tOp (uAdd K) (tOp (rIx K) (tVar 0) (tC (.int 2))) (tC (.int 1))) (gSub (tVar 0) (tC (.int 2)) rSetL))
    (tSeq (tAsg (tOp uMod (tCB (uInt) (tCons (tOp (uAdd K) (tOp (uAdd K) (tOp uMul (tOp (rIx K) (tVar 0) (tC (.int 1))) (tC (.int 39373))) (tOp uMul (tC (.int 7919)) (tOp (rIx K) (tVar 0) (tC (.int 2))))) (tC (.int 7))) tNil)) (tC (.int 2147483647))) (gSub (tVar 0) (tC (.int 1)) rSetL))
    (tRet (tOp uMod (tCB (uInt) (tCons (tOp uFdiv (tOp uMod (tCB (uInt) (tCons (tOp uMul (tOp (rIx K) (tVar 0) (tC (.int 1))) (tOp (rIx K) (tVar 0) (tC (.int 1)))) tNil)) (tC (.int 2147483629))) (tC (.int 32))) tNil)) (tVar 1))))))
abbrev st_law_one : Stmt := (topS 37)
def d_law_one : He.DefD := ⟨("_law_one", none), "_law_one", "_law_one", defArgs st_law_one, defBody st_law_one, defScope st_law_one, [], []⟩
def sp_law_one (K : Fg) : Sp := spJ K (tabs K) (F_law_one K)
def t_law_one (K : Fg) (E : XK) : TS := (tRet (tOp (rIx K) (tVar 1) (tCall (sp_law_take K) [] eN (tCons (tVar 0) (tCons (tCB (uLen K) (tCons (tVar 1) tNil)) tNil)))))
abbrev st_law_deep : Stmt := (topS 50)
def d_law_deep : He.DefD := ⟨("_law_deep", none), "_law_deep", "_law_deep", defArgs st_law_deep, defBody st_law_deep, defScope st_law_deep, [], []⟩
def sp_law_deep (K : Fg) : Sp := spJ K (tabs K) (F_law_deep K)
def t_law_deep (K : Fg) (E : XK) : TS := (tSeq (tAsg (tCall (sp_law_one K) [] eN (tCons (tVar 0) (tCons (tLst (tCons (tC (.int 0)) (tCons (tC (.int 2)) tNil))) tNil))) (gName 2))
    (tSeq (tFor (iRng1 (tCons (tOp uSub (tVar 1) (tC (.int 1))) tNil)) (gName 3) (tSeq (tAsg (tLst (tCons (tTup (tCons (tC (.str "plus")) (tCons (tVar 2) (tCons (tC (.int 1)) tNil)))) (tCons (tTup (tCons (tC (.str "same")) (tCons (tC (.int 0)) (tCons (tVar 2) tNil)))) (tCons (tTup (tCons (tC (.str "if")) (tCons (tVar 2) (tCons (tC (.int 1)) (tCons (tC (.int 2)) tNil))))) (tCons (tTup (tCons (tC (.str "call")) (tCons (tC (.str "g")) (tCons (tTup (tCons (tVar 2) tNil)) tNil)))) (tCons (tTup (tCons (tC (.str "if")) (tCons (tC (.int 1)) (tCons (tC (.int 2)) (tCons (tVar 2) tNil))))) tNil)))))) (gName 4))
    (tAsg (tCall (sp_law_one K) [] eN (tCons (tVar 0) (tCons (tVar 4) tNil))) (gName 2))))
    (tRet (tVar 2))))
abbrev st_law_wide : Stmt := (topS 51)
def d_law_wide : He.DefD := ⟨("_law_wide", none), "_law_wide", "_law_wide", defArgs st_law_wide, defBody st_law_wide, defScope st_law_wide, [], []⟩
def sp_law_wide (K : Fg) : Sp := spD K (tabs K) (F_law_wide K)
def t_law_wide (K : Fg) (E : XK) : TS := (tSeq (tAsg (tOp uMul (tLst (tCons (tC (.int 0)) tNil)) (tOp uFdiv (tOp (uAdd K) (tVar 0) (tC (.int 1))) (tC (.int 2)))) (gName 1))
    (tSeq (tWhile (tTest (tOp uGt (tCB (uLen K) (tCons (tVar 1) tNil)) (tC (.int 1)))) (tAsg (tOp (uAdd K) (tLc (iRng3 (tCons (tC (.int 0)) (tCons (tOp uSub (tCB (uLen K) (tCons (tVar 1) tNil)) (tC (.int 1))) (tCons (tC (.int 2)) tNil)))) (gName 2) tYes (tTup (tCons (tC (.str "plus")) (tCons (tOp (rIx K) (tVar 1) (tVar 2)) (tCons (tOp (rIx K) (tVar 1) (tOp (uAdd K) (tVar 2) (tC (.int 1)))) tNil)))) [2]) (tSl (uSl K) (tVar 1) (tPart (tOp uSub (tCB (uLen K) (tCons (tVar 1) tNil)) (tOp uMod (tCB (uLen K) (tCons (tVar 1) tNil)) (tC (.int 2))))) tNoPart)) (gName 1)))
    (tRet (tOp (rIx K) (tVar 1) (tC (.int 0))))))
abbrev st_law_terms : Stmt := (topS 52)
def d_law_terms : He.DefD := ⟨("_law_terms", none), "_law_terms", "_law_terms", defArgs st_law_terms, defBody st_law_terms, defScope st_law_terms, [], []⟩
def sp_law_terms (K : Fg) : Sp := spJ K (tabs K) (F_law_terms K)
def t_law_terms (K : Fg) (E : XK) : TS := (tSeq (tAsg (tLst (tCons (tC (.int 0)) (tCons (tC (.int 2)) (tCons (tC (.int 3)) (tCons (tUn (rU fun i => .int (-i)) (tC (.int 1))) (tCons (tC (.bl true)) (tCons (tC .non) (tCons (tC (.str "0")) (tCons (tTup tNil) (tCons (tTup (tCons (tC (.str "arg")) tNil)) (tCons (tTup (tCons (tC (.str "arg")) (tCons (tVar 1) tNil))) (tCons (tTup (tCons (tC (.str "arg")) (tCons (tOp uSub (tVar 1) (tC (.int 1))) tNil))) tNil)))))))))))) (gName 2))
    (tSeq (tDrop (tBM K "list" rExtend (tVar 2) (tCons (tLst (tCons (tTup (tCons (tC (.str "arg")) (tCons (tUn (rU fun i => .int (-i)) (tC (.int 1))) tNil))) (tCons (tTup (tCons (tC (.str "arg")) (tCons (tC (.bl true)) tNil))) tNil))) tNil)))
    (tSeq (tDrop (tBM K "list" rExtend (tVar 2) (tCons (tLst (tCons (tTup (tCons (tC (.str "cell")) (tCons (tC (.str "z")) tNil))) (tCons (tTup (tCons (tC (.str "cell")) (tCons (tC (.str "Z")) tNil))) (tCons (tTup (tCons (tC (.str "cell")) tNil)) (tCons (tTup (tCons (tC (.str "cell")) (tCons (tC (.str "abcdefghi")) tNil))) (tCons (tTup (tCons (tC (.str "cell")) (tCons (tC .non) tNil))) (tCons (tTup (tCons (tC (.str "tick")) tNil)) tNil))))))) tNil)))
    (tSeq (tDrop (tBM K "list" rExtend (tVar 2) (tCons (tLst (tCons (tTup (tCons (tC (.str "tick")) (tCons (tC (.int 0)) tNil))) (tCons (tC (.str "tick")) tNil))) tNil)))
    (tSeq (tDrop (tBM K "list" rExtend (tVar 2) (tCons (tLst (tCons (tTup (tCons (tC (.str "plus")) (tCons (tC (.int 0)) tNil))) (tCons (tTup (tCons (tC (.str "plus")) (tCons (tC (.int 0)) (tCons (tC (.int 1)) (tCons (tC (.int 2)) tNil))))) (tCons (tTup (tCons (tC (.str "plus")) (tCons (tC (.int 0)) (tCons (tC (.int 3)) tNil)))) (tCons (tTup (tCons (tC (.str "less")) (tCons (tTup tNil) (tCons (tC (.int 0)) tNil)))) (tCons (tTup (tCons (tC (.str "same")) (tCons (tC (.int 0)) (tCons (tLst (tCons (tC (.int 1)) tNil)) tNil)))) (tCons (tLst (tCons (tC (.str "plus")) (tCons (tC (.int 0)) (tCons (tC (.int 1)) tNil)))) tNil))))))) tNil)))
    (tSeq (tDrop (tBM K "list" rAppend (tVar 2) (tCons (tTup (tCons (tC (.str "Plus")) (tCons (tC (.int 0)) (tCons (tC (.int 1)) tNil)))) tNil)))
    (tSeq (tDrop (tBM K "list" rExtend (tVar 2) (tCons (tLst (tCons (tTup (tCons (tC (.str "if")) (tCons (tC (.int 0)) (tCons (tC (.int 1)) tNil)))) (tCons (tTup (tCons (tC (.str "if")) (tCons (tC (.int 0)) (tCons (tC (.int 1)) (tCons (tC (.int 2)) tNil))))) (tCons (tTup (tCons (tC (.str "if")) (tCons (tC (.int 0)) (tCons (tC (.int 1)) (tCons (tC (.int 2)) (tCons (tC (.int 0)) tNil)))))) (tCons (tTup (tCons (tC (.str "if")) (tCons (tC (.int 0)) (tCons (tC (.bl true)) (tCons (tC (.int 2)) tNil))))) (tCons (tTup (tCons (tC (.str "not")) (tCons (tC (.int 0)) tNil))) (tCons (tTup (tCons (tC (.int 0)) tNil)) tNil))))))) tNil)))
    (tSeq (tDrop (tBM K "list" rExtend (tVar 2) (tCons (tLst (tCons (tTup (tCons (tC .non) (tCons (tC (.int 0)) tNil))) (tCons (tTup (tCons (tC (.str "times")) (tCons (tC (.int 1)) (tCons (tC (.int 2)) tNil)))) tNil))) tNil)))
    (tSeq (tDrop (tBM K "list" rExtend (tVar 2) (tCons (tLst (tCons (tTup (tCons (tC (.str "call")) (tCons (tC (.str "g")) (tCons (tTup tNil) tNil)))) (tCons (tTup (tCons (tC (.str "call")) (tCons (tC (.str "g")) (tCons (tTup (tCons (tC (.int 0)) (tCons (tC (.int 1)) tNil))) tNil)))) (tCons (tTup (tCons (tC (.str "call")) (tCons (tC (.str "g")) (tCons (tTup (tCons (tC (.int 0)) (tCons (tC (.int 1)) (tCons (tC (.int 2)) tNil)))) tNil)))) (tCons (tTup (tCons (tC (.str "call")) (tCons (tC (.str "g")) (tCons (tLst (tCons (tC (.int 0)) tNil)) tNil)))) tNil))))) tNil)))
    (tSeq (tDrop (tBM K "list" rAppend (tVar 2) (tCons (tTup (tCons (tC (.str "call")) (tCons (tC (.str "g")) (tCons (tC (.int 0)) tNil)))) tNil)))
    (tSeq (tDrop (tBM K "list" rExtend (tVar 2) (tCons (tLst (tCons (tTup (tCons (tC (.str "call")) (tCons (tC (.str "G")) (tCons (tTup tNil) tNil)))) (tCons (tTup (tCons (tC (.str "call")) (tCons (tC (.int 5)) (tCons (tTup tNil) tNil)))) (tCons (tTup (tCons (tC (.str "call")) (tCons (tC (.str "g")) tNil))) (tCons (tTup (tCons (tC (.str "call")) (tCons (tC (.str "g")) (tCons (tTup (tCons (tC (.int 3)) tNil)) tNil)))) tNil))))) tNil)))
    (tSeq (tDrop (tBM K "list" rAppend (tVar 2) (tCons (tTup (tCons (tC (.str "call")) (tCons (tC (.str "anyname")) (tCons (tTup (tCons (tTup (tCons (tC (.str "arg")) (tCons (tC (.int 0)) tNil))) tNil)) tNil)))) tNil)))
    (tSeq (tDrop (tBM K "list" rExtend (tVar 2) (tCons (tLst (tCons (tCall (sp_law_deep K) [] eN (tCons (tVar 0) (tCons (tC (.int 8)) tNil))) (tCons (tCall (sp_law_deep K) [] eN (tCons (tVar 0) (tCons (tC (.int 9)) tNil))) (tCons (tCall (sp_law_wide K) [] eN (tCons (tC (.int 29)) tNil)) (tCons (tCall (sp_law_wide K) [] eN (tCons (tC (.int 31)) tNil)) (tCons (tTup (tCons (tC (.str "call")) (tCons (tC (.str "g")) (tCons (tTup (tCons (tCall (sp_law_wide K) [] eN (tCons (tC (.int 29)) tNil)) tNil)) tNil)))) tNil)))))) tNil)))
    (tRet (tOp (uAdd K) (tVar 2) (tLst (tCons (tTup (tCons (tC (.str "call")) (tCons (tC (.str "g")) (tCons (tTup (tCons (tCall (sp_law_wide K) [] eN (tCons (tC (.int 29)) tNil)) (tCons (tC (.int 0)) tNil))) tNil)))) (tCons (tTup (tCons (tC (.str "plus")) (tCons (tC (.int 0)) (tCons (tCall (sp_law_deep K) [] eN (tCons (tVar 0) (tCons (tC (.int 8)) tNil))) tNil)))) (tCons (tTup (tCons (tC (.str "plus")) (tCons (tCall (sp_law_deep K) [] eN (tCons (tVar 0) (tCons (tC (.int 7)) tNil))) (tCons (tC (.int 1)) tNil)))) tNil)))))))))))))))))))
abbrev st_is_label_name : Stmt := (topS 8)
def d_is_label_name : He.DefD := ⟨("is_label_name", none), "is_label_name", "is_label_name", defArgs st_is_label_name, defBody st_is_label_name, defScope st_is_label_name, [], []⟩
def sp_is_label_name (K : Fg) : Sp := spD K (tabs K) (F_is_label_name K)
def t_is_label_name (K : Fg) (E : XK) : TS := (tRet (tAndV (tCB (rIsiU K (Cs K)) (tCons (tVar 0) (tCons (tC (.ty "str")) tNil))) (tOp (vIn K) (tVar 0) (tC (.ref (He.ga K "LABELS"))))))
abbrev st_BadLabel___init : Stmt := (inClass (topS 3) 0)
def d_BadLabel___init : He.DefD := ⟨("BadLabel", some "__init__"), "__init__", "BadLabel.__init__", defArgs st_BadLabel___init, defBody st_BadLabel___init, defScope st_BadLabel___init, [], []⟩
def sp_BadLabel___init (K : Fg) : Sp := spX (He.ga K "BadLabel") "label"
def t_BadLabel___init (K : Fg) (E : XK) : TS := (tSeq (tDrop (tVeI K (tCons (tVar 0) (tCons (tC (.str "the value is not a label")) tNil))))
    (tOst K "label" (tVar 0) (tVar 1)))
abbrev st_Label___init : Stmt := (inClass (topS 9) 0)
def d_Label___init : He.DefD := ⟨("Label", some "__init__"), "__init__", "Label.__init__", defArgs st_Label___init, defBody st_Label___init, defScope st_Label___init, [], []⟩
def sp_Label___init (K : Fg) : Sp := spI K (tabs K) (He.ga K "Label") (F_Label___init K)
def t_Label___init (K : Fg) (E : XK) : TS := (tSeq (tIfS (tNot (tB (tCall (sp_is_label_name K) [] eN (tCons (tVar 1) tNil)))) (tRz (He.ga K "BadLabel") (sp_BadLabel___init K) E (tCons (tVar 1) tNil)) tNext)
    (tSeq (oSet (He.ga K "Label") "name" (tVar 0) (tVar 1))
    (oSet (He.ga K "Label") "height" (tVar 0) (tOp uSub (tOp uSub (tCB (uLen K) (tCons (tC (.ref (He.ga K "LABELS"))) tNil)) (tC (.int 1))) (tBM K "tuple" (rTIndex K) (tC (.ref (He.ga K "LABELS"))) (tCons (tVar 1) tNil))))))
abbrev st_law_odds : Stmt := (topS 57)
def d_law_odds : He.DefD := ⟨("_law_odds", none), "_law_odds", "_law_odds", defArgs st_law_odds, defBody st_law_odds, defScope st_law_odds, [], []⟩
def sp_law_odds (K : Fg) : Sp := spJ K (tabs K) (F_law_odds K)
def t_law_odds (K : Fg) (E : XK) : TS := (tSeq (tAsg (tCall (sp_law_terms K) [] eN (tCons (tVar 0) (tCons (tVar 1) tNil))) (gName 2))
    (tSeq (tAsg (tCall (sp_law_one K) [] eN (tCons (tVar 0) (tCons (tVar 2) tNil))) (gName 3))
    (tSeq (tAsg (tLst (tCons (tC .non) (tCons (tC (.int 5)) (tCons (tC (.str "a")) (tCons tDNewK (tCons (tOp uMul (tLst (tCons (tTup (tCons (tC (.str "z")) (tCons (tC (.int 0)) tNil))) tNil)) (tC (.int 2))) (tCons (tLst (tCons (tTup (tCons (tC (.str "z")) tNil)) tNil)) (tCons (tLst (tCons (tTup (tCons (tC (.str "z")) (tCons (tC (.int 0)) (tCons (tC (.int 1)) tNil)))) tNil)) (tCons (tLst (tCons (tLst (tCons (tC (.str "z")) (tCons (tC (.int 0)) tNil))) tNil)) (tCons (tLst (tCons (tC (.str "z")) tNil)) (tCons (tLst (tCons (tTup (tCons (tC (.str "Z")) (tCons (tC (.int 0)) tNil))) tNil)) tNil))))))))))) (gName 4))
    (tSeq (tDrop (tBM K "list" rExtend (tVar 4) (tCons (tLst (tCons (tLst (tCons (tTup (tCons (tC .non) (tCons (tC (.int 0)) tNil))) tNil)) (tCons (tTup tNil) (tCons (tLst tNil) tNil)))) tNil)))
    (tSeq (tDrop (tBM K "list" rExtend (tVar 4) (tCons (tLst (tCons (tLst (tCons (tTup (tCons (tC (.str "a")) (tCons (tC (.int 0)) tNil))) (tCons (tTup (tCons (tC (.str "b")) (tCons (tC (.int 1)) tNil))) (tCons (tTup (tCons (tC (.str "c")) (tCons (tC (.int 2)) tNil))) (tCons (tTup (tCons (tC (.str "d")) (tCons (tC (.int 0)) tNil))) tNil))))) (tCons (tLst (tCons (tTup (tCons (tC (.str "a")) (tCons (tC (.int 0)) tNil))) (tCons (tTup (tCons (tC (.str "b")) (tCons (tC (.int 1)) tNil))) (tCons (tTup (tCons (tC (.str "c")) (tCons (tVar 3) tNil))) tNil)))) (tCons (tTup (tCons (tTup (tCons (tC (.str "a")) (tCons (tVar 3) tNil))) tNil)) tNil)))) tNil)))
    (tSeq (tDrop (tBM K "list" rExtend (tVar 4) (tCons (tLst (tCons (tLst (tCons (tTup (tCons (tC (.str "a")) (tCons (tVar 3) tNil))) (tCons (tTup (tCons (tC (.str "b")) (tCons (tC (.int 3)) tNil))) tNil))) (tCons (tLst (tCons (tTup (tCons (tC (.str "a")) (tCons (tC (.int 0)) tNil))) (tCons (tTup (tCons (tC (.str "a")) (tCons (tVar 3) tNil))) tNil))) (tCons (tLst (tCons (tTup (tCons (tC (.str "a")) (tCons (tC (.int 0)) tNil))) (tCons (tTup (tCons (tC (.str "b")) (tCons (tTup (tCons (tC (.str "tick")) tNil)) tNil))) (tCons (tTup (tCons (tC (.str "c")) (tCons (tTup (tCons (tC (.str "arg")) (tCons (tC (.int 0)) tNil))) tNil))) tNil)))) tNil)))) tNil)))
    (tSeq (tAsg (tLst (tCons (tC (.str "")) (tCons (tC (.str "F")) (tCons (tC (.str "abcdefghi")) (tCons (tC (.str "abcdefgh")) (tCons (tC .non) (tCons (tC (.int 5)) (tCons (tC (.str "f1")) (tCons (tTup (tCons (tC (.str "f")) tNil)) (tCons (tC (.bl true)) tNil)))))))))) (gName 5))
    (tSeq (tAsg (tLst (tCons (tC (.str "")) (tCons (tC (.str "Always")) (tCons (tC .non) (tCons (tC (.int 0)) (tCons (tTup (tCons (tC (.str "changing")) tNil)) (tCons (tC (.str "statements")) (tCons (tMake (He.ga K "Label") (sp_Label___init K) [] eN (tCons (tC (.str "session")) tNil)) (tCons (tC (.str "always")) (tCons (tLst (tCons (tC (.str "changing")) tNil)) tNil)))))))))) (gName 6))
    (tRet (tLst (tCons (tVar 5) (tCons (tLst (tCons (tUn (rU fun i => .int (-i)) (tC (.int 1))) (tCons (tC (.int 3)) (tCons (tC (.bl true)) (tCons (tC .non) (tCons (tC (.str "0")) (tCons (tTup (tCons (tC (.int 0)) tNil)) tNil))))))) (tCons (tVar 2) (tCons (tVar 6) (tCons (tVar 4) (tCons (tLst (tCons (tUn (rU fun i => .int (-i)) (tC (.int 1))) (tCons (tC (.int 100)) (tCons (tC (.bl true)) (tCons (tC .non) (tCons (tC (.str "1")) (tCons (tC (.int 99)) (tCons (tC (.int 0)) tNil)))))))) tNil))))))))))))))))
abbrev st_law_heard : Stmt := (topS 48)
def d_law_heard : He.DefD := ⟨("_law_heard", none), "_law_heard", "_law_heard", defArgs st_law_heard, defBody st_law_heard, defScope st_law_heard, [], []⟩
abbrev st_inner_terms : Stmt := (topS 25)
def d_inner_terms : He.DefD := ⟨("inner_terms", none), "inner_terms", "inner_terms", defArgs st_inner_terms, defBody st_inner_terms, defScope st_inner_terms, [], []⟩
def sp_inner_terms (K : Fg) : Sp := spD K (tabs K) (F_inner_terms K)
def t_inner_terms (K : Fg) (E : XK) : TS := (tSeq (tIfS (tNot (tB (tCB (rIsiU K (Cs K)) (tCons (tVar 0) (tCons (tC (.ty "tuple")) tNil))))) (tRet (tTup tNil)) tNext)
    (tSeq (tIfS (tTest (tOp (uEq K) (tOp (rIx K) (tVar 0) (tC (.int 0))) (tC (.str "call")))) (tRet (tOp (rIx K) (tVar 0) (tC (.int 2)))) tNext)
    (tRet (tIf (tOr (tTest (tOp (vIn K) (tOp (rIx K) (tVar 0) (tC (.int 0))) (tC (.ref (He.ga K "PAIRS"))))) (tTest (tOp (uEq K) (tOp (rIx K) (tVar 0) (tC (.int 0))) (tC (.str "if"))))) (tSl (uSl K) (tVar 0) (tPart (tC (.int 1))) tNoPart) (tTup tNil)))))
abbrev st_has_kind : Stmt := (topS 19)
def d_has_kind : He.DefD := ⟨("has_kind", none), "has_kind", "has_kind", defArgs st_has_kind, defBody st_has_kind, defScope st_has_kind, [], []⟩
def sp_has_kind (K : Fg) : Sp := spD K (tabs K) (F_has_kind K)
def t_has_kind (K : Fg) (E : XK) : TS := (tRet (tAndV (tCB (rIsiU K (Cs K)) (tCons (tVar 0) (tCons (tC (.ty "tuple")) tNil))) (tAndV (tOp (uEq K) (tCB (uLen K) (tCons (tVar 0) tNil)) (tVar 2)) (tAndV (tCB (rIsiU K (Cs K)) (tCons (tOp (rIx K) (tVar 0) (tC (.int 0))) (tCons (tC (.ty "str")) tNil))) (tOp (uEq K) (tOp (rIx K) (tVar 0) (tC (.int 0))) (tVar 1))))))
abbrev st_is_integer : Stmt := (topS 15)
def d_is_integer : He.DefD := ⟨("is_integer", none), "is_integer", "is_integer", defArgs st_is_integer, defBody st_is_integer, defScope st_is_integer, [], []⟩
def sp_is_integer (K : Fg) : Sp := spD K (tabs K) (F_is_integer K)
def t_is_integer (K : Fg) (E : XK) : TS := (tRet (tAndV (tCB (rIsiU K (Cs K)) (tCons (tVar 0) (tCons (tC (.ty "int")) tNil))) (tNotV (tCB (rIsiU K (Cs K)) (tCons (tVar 0) (tCons (tC (.ty "bool")) tNil))))))
abbrev st_is_between : Stmt := (topS 16)
def d_is_between : He.DefD := ⟨("is_between", none), "is_between", "is_between", defArgs st_is_between, defBody st_is_between, defScope st_is_between, [], []⟩
def sp_is_between (K : Fg) : Sp := spD K (tabs K) (F_is_between K)
def t_is_between (K : Fg) (E : XK) : TS := (tRet (tAndV (tCall (sp_is_integer K) [] eN (tCons (tVar 0) tNil)) (tChain uLe uLe (tVar 1) (tVar 0) (tVar 2))))
abbrev st_is_value : Stmt := (topS 17)
def d_is_value : He.DefD := ⟨("is_value", none), "is_value", "is_value", defArgs st_is_value, defBody st_is_value, defScope st_is_value, [], []⟩
def sp_is_value (K : Fg) : Sp := spD K (tabs K) (F_is_value K)
def t_is_value (K : Fg) (E : XK) : TS := (tRet (tCall (sp_is_between K) [] eN (tCons (tVar 0) (tCons (tC (.int 0)) (tCons (tC (.int 2)) tNil)))))
abbrev st_is_name : Stmt := (topS 18)
def d_is_name : He.DefD := ⟨("is_name", none), "is_name", "is_name", defArgs st_is_name, defBody st_is_name, defScope st_is_name, [], []⟩
def sp_is_name (K : Fg) : Sp := spD K (tabs K) (F_is_name K)
def t_is_name (K : Fg) (E : XK) : TS := (tRet (tAndV (tCB (rIsiU K (Cs K)) (tCons (tVar 0) (tCons (tC (.ty "str")) tNil))) (tAndV (tChain uLe uLe (tC (.int 1)) (tCB (uLen K) (tCons (tVar 0) tNil)) (tC (.int 8))) (tCB (rAll K) (tCons (tLc (iU K (tVar 0)) (gName 1) tYes (tOp (vIn K) (tVar 1) (tC (.str "abcdefghijklmnopqrstuvwxyz"))) [1]) tNil)))))
abbrev st_has_form : Stmt := (topS 26)
def d_has_form : He.DefD := ⟨("has_form", none), "has_form", "has_form", defArgs st_has_form, defBody st_has_form, defScope st_has_form, [], []⟩
def sp_has_form (K : Fg) : Sp := spD K (tabs K) (F_has_form K)
def t_has_form (K : Fg) (E : XK) : TS := (tSeq (tIfS (tOr (tB (tCall (sp_is_value K) [] eN (tCons (tVar 0) tNil))) (tB (tCall (sp_has_kind K) [] eN (tCons (tVar 0) (tCons (tC (.str "tick")) (tCons (tC (.int 1)) tNil)))))) (tRet (tC (.bl true))) tNext)
    (tSeq (tIfS (tB (tCall (sp_has_kind K) [] eN (tCons (tVar 0) (tCons (tC (.str "arg")) (tCons (tC (.int 2)) tNil))))) (tRet (tCall (sp_is_between K) [] eN (tCons (tOp (rIx K) (tVar 0) (tC (.int 1))) (tCons (tC (.int 0)) (tCons (tOp uSub (tVar 1) (tC (.int 1))) tNil))))) tNext)
    (tSeq (tIfS (tB (tCall (sp_has_kind K) [] eN (tCons (tVar 0) (tCons (tC (.str "cell")) (tCons (tC (.int 2)) tNil))))) (tRet (tCall (sp_is_name K) [] eN (tCons (tOp (rIx K) (tVar 0) (tC (.int 1))) tNil))) tNext)
    (tSeq (tIfS (tB (tCall (sp_has_kind K) [] eN (tCons (tVar 0) (tCons (tC (.str "call")) (tCons (tC (.int 3)) tNil))))) (tRet (tAndV (tCall (sp_is_name K) [] eN (tCons (tOp (rIx K) (tVar 0) (tC (.int 1))) tNil)) (tAndV (tCB (rIsiU K (Cs K)) (tCons (tOp (rIx K) (tVar 0) (tC (.int 2))) (tCons (tC (.ty "tuple")) tNil))) (tOp uLe (tCB (uLen K) (tCons (tOp (rIx K) (tVar 0) (tC (.int 2))) tNil)) (tC (.int 2)))))) tNext)
    (tRet (tOrV (tCB (rAny K) (tCons (tLc (iU K (tC (.ref (He.ga K "PAIRS")))) (gName 2) tYes (tCall (sp_has_kind K) [] eN (tCons (tVar 0) (tCons (tVar 2) (tCons (tC (.int 3)) tNil)))) [2]) tNil)) (tCall (sp_has_kind K) [] eN (tCons (tVar 0) (tCons (tC (.str "if")) (tCons (tC (.int 4)) tNil))))))))))
abbrev st_is_term : Stmt := (topS 27)
def d_is_term : He.DefD := ⟨("is_term", none), "is_term", "is_term", defArgs st_is_term, defBody st_is_term, defScope st_is_term, [], []⟩
def sp_is_term (K : Fg) : Sp := spD K (tabs K) (F_is_term K)
def t_is_term (K : Fg) (E : XK) : TS := (tSeq (tPar 2 3 (tCons (tLst (tCons (tVar 0) tNil)) (tCons (tC (.int 0)) tNil)))
    (tSeq (tFor (iRng1 (tCons (tC (.int 8)) tNil)) (gName 4) (tSeq (tAug 3 (tCB (uLen K) (tCons (tVar 2) tNil)) (ipI fun i j => i + j))
    (tSeq (tIfS (tOr (tTest (tOp uGt (tVar 3) (tC (.int 30)))) (tNot (tB (tCB (rAll K) (tCons (tLc (iU K (tVar 2)) (gName 5) tYes (tCall (sp_has_form K) [] eN (tCons (tVar 5) (tCons (tVar 1) tNil))) [5]) tNil))))) (tRet (tC (.bl false))) tNext)
    (tSeq (tAsg (tLc2 (iU K (tVar 2)) (gName 6) tYes (iU K (tCall (sp_inner_terms K) [] eN (tCons (tVar 6) tNil))) (gName 5) tYes (tVar 5) [6, 5] [5]) (gName 2))
    (tIfS (tTest (tOp (uEq K) (tVar 2) (tLst tNil))) (tRet (tC (.bl true))) tNext)))))
    (tRet (tC (.bl false)))))
abbrev st_law_heard_term : Stmt := (topS 59)
def d_law_heard_term : He.DefD := ⟨("_law_heard_term", none), "_law_heard_term", "_law_heard_term", defArgs st_law_heard_term, defBody st_law_heard_term, defScope st_law_heard_term, [], []⟩
def sp_law_heard_term (K : Fg) : Sp := spD K (tabs K) (F_law_heard_term K)
def t_law_heard_term (K : Fg) (E : XK) : TS := (tRet (tLamM (tabs K) (TTh K "told" (hL K)) [] fun E => (tCall (sp_is_term K) [] eN (tCons (tVar 0) (tCons (tVar 1) tNil)))))
abbrev st_law_yq_is_whole : Stmt := (topS 38)
def d_law_yq_is_whole : He.DefD := ⟨("_law_yq_is_whole", none), "_law_yq_is_whole", "_law_yq_is_whole", defArgs st_law_yq_is_whole, defBody st_law_yq_is_whole, defScope st_law_yq_is_whole, [], []⟩
def sp_law_yq_is_whole (K : Fg) : Sp := spD K (tabs K) (F_law_yq_is_whole K)
def t_law_yq_is_whole (K : Fg) (E : XK) : TS := (tRet (tAndV (tCB (rIsiU K (Cs K)) (tCons (tVar 0) (tCons (tC (.ty "int")) tNil))) (tNotV (tCB (rIsiU K (Cs K)) (tCons (tVar 0) (tCons (tC (.ty "bool")) tNil))))))
abbrev st_law_yq_same : Stmt := (topS 39)
def d_law_yq_same : He.DefD := ⟨("_law_yq_same", none), "_law_yq_same", "_law_yq_same", defArgs st_law_yq_same, defBody st_law_yq_same, defScope st_law_yq_same, [], []⟩
def sp_law_yq_same (n : Nat) (K : Fg) : Sp := spD K (tabs K) (F_law_yq_same n K)
def t_law_yq_same (n : Nat) (K : Fg) (E : XK) : TS := (tSeq (tIfS (tTest (tOp uIsN (tVar 1) (tC .non))) (tRet (tOp uIsN (tVar 0) (tC .non))) tNext)
    (tSeq (tIfS (tB (tCB (rIsiU K (Cs K)) (tCons (tVar 1) (tCons (tC (.ty "bool")) tNil)))) (tRet (tIf (tB (tVar 1)) (tOp rIsB (tVar 0) (tC (.bl true))) (tOp rIsB (tVar 0) (tC (.bl false))))) tNext)
    (tSeq (tIfS (tB (tCB (rIsiU K (Cs K)) (tCons (tVar 1) (tCons (tC (.ty "int")) tNil)))) (tRet (tAndV (tCall (sp_law_yq_is_whole K) [] eN (tCons (tVar 0) tNil)) (tOp (uEq K) (tVar 0) (tVar 1)))) tNext)
    (tSeq (tIfS (tB (tCB (rIsiU K (Cs K)) (tCons (tVar 1) (tCons (tC (.ty "str")) tNil)))) (tRet (tAndV (tCB (rIsiU K (Cs K)) (tCons (tVar 0) (tCons (tC (.ty "str")) tNil))) (tOp (uEq K) (tVar 0) (tVar 1)))) tNext)
    (tSeq (tIfS (tAnd (tNot (tB (tCB (rIsiU K (Cs K)) (tCons (tVar 1) (tCons (tC (.ty "tuple")) tNil))))) (tNot (tB (tCB (rIsiU K (Cs K)) (tCons (tVar 1) (tCons (tC (.ty "list")) tNil)))))) (tRet (tCB (uBool) (tCons (tOp (uEq K) (tVar 0) (tVar 1)) tNil))) tNext)
    (tSeq (tIfS (tTest (tOp (uNe K) (tCB (rIsiU K (Cs K)) (tCons (tVar 1) (tCons (tC (.ty "tuple")) tNil))) (tCB (rIsiU K (Cs K)) (tCons (tVar 0) (tCons (tC (.ty "tuple")) tNil))))) (tRet (tC (.bl false))) tNext)
    (tSeq (tIfS (tTest (tOp (uNe K) (tCB (rIsiU K (Cs K)) (tCons (tVar 1) (tCons (tC (.ty "list")) tNil))) (tCB (rIsiU K (Cs K)) (tCons (tVar 0) (tCons (tC (.ty "list")) tNil))))) (tRet (tC (.bl false))) tNext)
    (tSeq (tIfS (tTest (tOp (uNe K) (tCB (uLen K) (tCons (tVar 0) tNil)) (tCB (uLen K) (tCons (tVar 1) tNil)))) (tRet (tC (.bl false))) tNext)
    (tSeq (tFor (iRng1 (tCons (tCB (uLen K) (tCons (tVar 1) tNil)) tNil)) (gName 2) (tIfS (tNot (tB (tCall (sp_law_yq_same n K) [] eN (tCons (tOp (rIx K) (tVar 0) (tVar 2)) (tCons (tOp (rIx K) (tVar 1) (tVar 2)) tNil))))) (tRet (tC (.bl false))) tNext))
    (tRet (tC (.bl true))))))))))))
abbrev st_made_label : Stmt := (topS 10)
def d_made_label : He.DefD := ⟨("made_label", none), "made_label", "made_label", defArgs st_made_label, defBody st_made_label, defScope st_made_label, [], []⟩
def sp_made_label (K : Fg) : Sp := spD K (tabs K) (F_made_label K)
def t_made_label (K : Fg) (E : XK) : TS := (tRet (tIf (tB (tCB (rIsiU K (Cs K)) (tCons (tVar 0) (tCons (tC (.ref (He.ga K "Label"))) tNil)))) (tVar 0) (tMake (He.ga K "Label") (sp_Label___init K) [] E (tCons (tVar 0) tNil))))
abbrev st_BadPart___init : Stmt := (inClass (topS 4) 0)
def d_BadPart___init : He.DefD := ⟨("BadPart", some "__init__"), "__init__", "BadPart.__init__", defArgs st_BadPart___init, defBody st_BadPart___init, defScope st_BadPart___init, [], []⟩
def sp_BadPart___init (K : Fg) : Sp := spX (He.ga K "BadPart") "part"
def t_BadPart___init (K : Fg) (E : XK) : TS := (tSeq (tDrop (tVeI K (tCons (tVar 0) (tCons (tC (.str "the part does not fit")) tNil))))
    (tOst K "part" (tVar 0) (tVar 1)))
abbrev st_BadTerm___init : Stmt := (inClass (topS 5) 0)
def d_BadTerm___init : He.DefD := ⟨("BadTerm", some "__init__"), "__init__", "BadTerm.__init__", defArgs st_BadTerm___init, defBody st_BadTerm___init, defScope st_BadTerm___init, [], []⟩
def sp_BadTerm___init (K : Fg) : Sp := spX (He.ga K "BadTerm") "term"
def t_BadTerm___init (K : Fg) (E : XK) : TS := (tSeq (tDrop (tVeI K (tCons (tVar 0) (tCons (tC (.str "the value is not a term")) tNil))))
    (tOst K "term" (tVar 0) (tVar 1)))
abbrev st_are_writes : Stmt := (topS 32)
def d_are_writes : He.DefD := ⟨("are_writes", none), "are_writes", "are_writes", defArgs st_are_writes, defBody st_are_writes, defScope st_are_writes, [], []⟩
def sp_are_writes (K : Fg) : Sp := spD K (tabs K) (F_are_writes K)
def t_are_writes (K : Fg) (E : XK) : TS := (tSeq (tIfS (tOr (tNot (tB (tCB (rIsiT K) (tCons (tVar 0) (tCons (tTup (tCons (tC (.ty "list")) (tCons (tC (.ty "tuple")) tNil))) tNil))))) (tTest (tOp uGt (tCB (uLen K) (tCons (tVar 0) tNil)) (tC (.int 3))))) (tRet (tC (.bl false))) tNext)
    (tSeq (tIfS (tNot (tB (tCB (rAll K) (tCons (tLc (iU K (tVar 0)) (gName 1) tYes (tAndV (tCB (rIsiU K (Cs K)) (tCons (tVar 1) (tCons (tC (.ty "tuple")) tNil))) (tAndV (tOp (uEq K) (tCB (uLen K) (tCons (tVar 1) tNil)) (tC (.int 2))) (tCall (sp_is_name K) [] eN (tCons (tOp (rIx K) (tVar 1) (tC (.int 0))) tNil)))) [1]) tNil)))) (tRet (tC (.bl false))) tNext)
    (tSeq (tAsg (tLc (iU K (tVar 0)) (gName 1) tYes (tOp (rIx K) (tVar 1) (tC (.int 0))) [1]) (gName 2))
    (tRet (tCB (rAll K) (tCons (tLc (iEnumU K (tCons (tVar 2) tNil)) (gTup K 2 (gCons (gName 3) (gCons (gName 4) gNil))) tYes (tOp (vNin K) (tVar 4) (tSl (uSl K) (tVar 2) tNoPart (tPart (tVar 3)))) [3, 4]) tNil))))))
abbrev st_Function___init : Stmt := (inClass (topS 33) 0)
def d_Function___init : He.DefD := ⟨("Function", some "__init__"), "__init__", "Function.__init__", defArgs st_Function___init, defBody st_Function___init, defScope st_Function___init, [], [("label", .str "changing")]⟩
def sp_Function___init (K : Fg) : Sp := spI K (tabs K) (He.ga K "Function") (F_Function___init K)
def t_Function___init (K : Fg) (E : XK) : TS := (tSeq (tIfS (tNot (tB (tCall (sp_is_name K) [] eN (tCons (tVar 1) tNil)))) (tRz (He.ga K "BadPart") (sp_BadPart___init K) E (tCons (tC (.str "name")) tNil)) tNext)
    (tSeq (tIfS (tNot (tB (tCall (sp_is_between K) [] eN (tCons (tVar 2) (tCons (tC (.int 0)) (tCons (tC (.int 2)) tNil)))))) (tRz (He.ga K "BadPart") (sp_BadPart___init K) E (tCons (tC (.str "arguments")) tNil)) tNext)
    (tSeq (oSet (He.ga K "Function") "label" (tVar 0) (tCall (sp_made_label K) [] E (tCons (tVar 4) tNil)))
    (tSeq (tIfS (tNot (tB (tCall (sp_is_term K) [] eN (tCons (tVar 3) (tCons (tVar 2) tNil))))) (tRz (He.ga K "BadTerm") (sp_BadTerm___init K) E (tCons (tVar 3) tNil)) tNext)
    (tSeq (tIfS (tNot (tB (tCall (sp_are_writes K) [] eN (tCons (tVar 5) tNil)))) (tRz (He.ga K "BadPart") (sp_BadPart___init K) E (tCons (tC (.str "writes")) tNil)) tNext)
    (tSeq (tFor (iU K (tVar 5)) (gName 7) (tIfS (tNot (tB (tCall (sp_is_term K) [] eN (tCons (tOp (rIx K) (tVar 7) (tC (.int 1))) (tCons (tVar 2) tNil))))) (tRz (He.ga K "BadTerm") (sp_BadTerm___init K) E (tCons (tOp (rIx K) (tVar 7) (tC (.int 1))) tNil)) tNext))
    (tSeq (tIfS (tNot (tB (tCall (sp_is_between K) [] eN (tCons (tVar 6) (tCons (tC (.int 0)) (tCons (tC (.int 99)) tNil)))))) (tRz (He.ga K "BadPart") (sp_BadPart___init K) E (tCons (tC (.str "cost")) tNil)) tNext)
    (tSeq (oSet (He.ga K "Function") "name" (tVar 0) (tVar 1))
    (tSeq (oSet (He.ga K "Function") "arguments" (tVar 0) (tVar 2))
    (tSeq (oSet (He.ga K "Function") "result" (tVar 0) (tVar 3))
    (tSeq (oSet (He.ga K "Function") "writes" (tVar 0) (tCB (uTuple K) (tCons (tVar 5) tNil)))
    (oSet (He.ga K "Function") "cost" (tVar 0) (tVar 6)))))))))))))
abbrev st_Function_with_parts : Stmt := (inClass (topS 33) 3)
def d_Function_with_parts : He.DefD := ⟨("Function", some "with_parts"), "with_parts", "Function.with_parts", defArgs st_Function_with_parts, defBody st_Function_with_parts, defScope st_Function_with_parts, [], []⟩
def sp_Function_with_parts (K : Fg) : Sp := spD K (tabs K) (F_Function_with_parts K)
def t_Function_with_parts (K : Fg) (E : XK) : TS := (tRet (tMakeK (He.ga K "Function") 3 3 (sp_Function___init K) (fun vs zs => vs ++ zs) E (tCons (oFld (fC_name K) "name" (tVar 0)) (tCons (oFld (fC_arguments K) "arguments" (tVar 0)) (tCons (tVar 1) tNil))) (tCons (tVar 2) (tCons (tVar 3) (tCons (tVar 4) tNil)))))
abbrev st_Function_labelled : Stmt := (inClass (topS 33) 4)
def d_Function_labelled : He.DefD := ⟨("Function", some "labelled"), "labelled", "Function.labelled", defArgs st_Function_labelled, defBody st_Function_labelled, defScope st_Function_labelled, [], []⟩
def sp_Function_labelled (K : Fg) : Sp := spD K (tabs K) (F_Function_labelled K)
def t_Function_labelled (K : Fg) (E : XK) : TS := (tRet (tMeth (He.ga K "Function") "with_parts" (sp_Function_with_parts K) [] E (tVar 0) (tCons (oFld (fC_result K) "result" (tVar 0)) (tCons (tVar 1) (tCons (oFld (fC_writes K) "writes" (tVar 0)) (tCons (oFld (fC_cost K) "cost" (tVar 0)) tNil))))))
abbrev st_law_heard_labelled : Stmt := (topS 62)
def d_law_heard_labelled : He.DefD := ⟨("_law_heard_labelled", none), "_law_heard_labelled", "_law_heard_labelled", defArgs st_law_heard_labelled, defBody st_law_heard_labelled, defScope st_law_heard_labelled, [], []⟩
def sp_law_heard_labelled (K : Fg) : Sp := spD K (tabs K) (F_law_heard_labelled K)
def t_law_heard_labelled (K : Fg) (E : XK) : TS := (tRet (tLamM (tabs K) (TTh K "told" (hL K)) [] fun E => (oFld (fC_name K) "name" (tMeth (He.ga K "Function") "labelled" (sp_Function_labelled K) [] E (tVar 0) (tCons (tVar 1) tNil)))))
abbrev st_law_lo_is_name : Stmt := (topS 41)
def d_law_lo_is_name : He.DefD := ⟨("_law_lo_is_name", none), "_law_lo_is_name", "_law_lo_is_name", defArgs st_law_lo_is_name, defBody st_law_lo_is_name, defScope st_law_lo_is_name, [], []⟩
def sp_law_lo_is_name (K : Fg) : Sp := spD K (tabs K) (F_law_lo_is_name K)
def t_law_lo_is_name (K : Fg) (E : XK) : TS := (tSeq (tIfS (tOr (tNot (tB (tCB (rIsiU K (Cs K)) (tCons (tVar 0) (tCons (tC (.ty "str")) tNil))))) (tNot (tTest (tChain uLe uLe (tC (.int 1)) (tCB (uLen K) (tCons (tVar 0) tNil)) (tC (.int 8)))))) (tRet (tC (.bl false))) tNext)
    (tRet (tOp (uEq K) (tLc (iU K (tVar 0)) (gName 1) (tTest (tOp (vNin K) (tVar 1) (tC (.str "abcdefghijklmnopqrstuvwxyz")))) (tVar 1) [1]) (tLst tNil))))
abbrev st_law_lo_is_whole : Stmt := (topS 40)
def d_law_lo_is_whole : He.DefD := ⟨("_law_lo_is_whole", none), "_law_lo_is_whole", "_law_lo_is_whole", defArgs st_law_lo_is_whole, defBody st_law_lo_is_whole, defScope st_law_lo_is_whole, [], []⟩
def sp_law_lo_is_whole (K : Fg) : Sp := spD K (tabs K) (F_law_lo_is_whole K)
def t_law_lo_is_whole (K : Fg) (E : XK) : TS := (tRet (tAndV (tCB (rIsiU K (Cs K)) (tCons (tVar 0) (tCons (tC (.ty "int")) tNil))) (tAndV (tNotV (tCB (rIsiU K (Cs K)) (tCons (tVar 0) (tCons (tC (.ty "bool")) tNil)))) (tChain uLe uLe (tVar 1) (tVar 0) (tVar 2)))))
abbrev st_law_lo_is_formed : Stmt := (topS 45)
def d_law_lo_is_formed : He.DefD := ⟨("_law_lo_is_formed", none), "_law_lo_is_formed", "_law_lo_is_formed", defArgs st_law_lo_is_formed, defBody st_law_lo_is_formed, defScope st_law_lo_is_formed, [], []⟩
def sp_law_lo_is_formed (n : Nat) (K : Fg) : Sp := spD K (tabs K) (F_law_lo_is_formed n K)
def t_law_lo_is_formed (n : Nat) (K : Fg) (E : XK) : TS := (tSeq (tIfS (tNot (tB (tCB (rIsiU K (Cs K)) (tCons (tVar 0) (tCons (tC (.ty "tuple")) tNil))))) (tRet (tCall (sp_law_lo_is_whole K) [] eN (tCons (tVar 0) (tCons (tC (.int 0)) (tCons (tC (.int 2)) tNil))))) tNext)
    (tSeq (tIfS (tOr (tTest (tOp (uEq K) (tVar 0) (tTup tNil))) (tOr (tNot (tB (tCB (rIsiU K (Cs K)) (tCons (tOp (rIx K) (tVar 0) (tC (.int 0))) (tCons (tC (.ty "str")) tNil))))) (tTest (tOp (vLt K) (tVar 2) (tC (.int 1)))))) (tRet (tC (.bl false))) tNext)
    (tSeq (tPar 3 4 (tCons (tOp (rIx K) (tVar 0) (tC (.int 0))) (tCons (tCB (uLen K) (tCons (tVar 0) tNil)) tNil)))
    (tSeq (tIfS (tTest (tOp (uEq K) (tVar 3) (tC (.str "tick")))) (tRet (tOp (uEq K) (tVar 4) (tC (.int 1)))) tNext)
    (tSeq (tIfS (tTest (tOp (uEq K) (tVar 3) (tC (.str "arg")))) (tRet (tAndV (tOp (uEq K) (tVar 4) (tC (.int 2))) (tCall (sp_law_lo_is_whole K) [] eN (tCons (tOp (rIx K) (tVar 0) (tC (.int 1))) (tCons (tC (.int 0)) (tCons (tOp uSub (tVar 1) (tC (.int 1))) tNil)))))) tNext)
    (tSeq (tIfS (tTest (tOp (uEq K) (tVar 3) (tC (.str "cell")))) (tRet (tAndV (tOp (uEq K) (tVar 4) (tC (.int 2))) (tCall (sp_law_lo_is_name K) [] eN (tCons (tOp (rIx K) (tVar 0) (tC (.int 1))) tNil)))) tNext)
    (tSeq (tIfS (tTest (tOp (vIn K) (tVar 3) (tLst (tCons (tC (.str "plus")) (tCons (tC (.str "less")) (tCons (tC (.str "same")) (tCons (tC (.str "if")) tNil))))))) (tSeq (tAsg (tIf (tTest (tOp (uEq K) (tVar 3) (tC (.str "if")))) (tC (.int 4)) (tC (.int 3))) (gName 5))
    (tRet (tAndV (tOp (uEq K) (tVar 4) (tVar 5)) (tOp (uEq K) (tLc (iU K (tSl (uSl K) (tVar 0) (tPart (tC (.int 1))) tNoPart)) (gName 6) (tNot (tB (tCall (sp_law_lo_is_formed n K) [] eN (tCons (tVar 6) (tCons (tVar 1) (tCons (tOp uSub (tVar 2) (tC (.int 1))) tNil)))))) (tVar 6) [6]) (tLst tNil))))) tNext)
    (tSeq (tIfS (tOr (tTest (tOp (uNe K) (tVar 3) (tC (.str "call")))) (tOr (tTest (tOp (uNe K) (tVar 4) (tC (.int 3)))) (tNot (tB (tCall (sp_law_lo_is_name K) [] eN (tCons (tOp (rIx K) (tVar 0) (tC (.int 1))) tNil)))))) (tRet (tC (.bl false))) tNext)
    (tSeq (tIfS (tOr (tNot (tB (tCB (rIsiU K (Cs K)) (tCons (tOp (rIx K) (tVar 0) (tC (.int 2))) (tCons (tC (.ty "tuple")) tNil))))) (tTest (tOp uGt (tCB (uLen K) (tCons (tOp (rIx K) (tVar 0) (tC (.int 2))) tNil)) (tC (.int 2))))) (tRet (tC (.bl false))) tNext)
    (tRet (tOp (uEq K) (tLc (iU K (tOp (rIx K) (tVar 0) (tC (.int 2)))) (gName 6) (tNot (tB (tCall (sp_law_lo_is_formed n K) [] eN (tCons (tVar 6) (tCons (tVar 1) (tCons (tOp uSub (tVar 2) (tC (.int 1))) tNil)))))) (tVar 6) [6]) (tLst tNil))))))))))))
abbrev st_law_lo_arms : Stmt := (topS 42)
def d_law_lo_arms : He.DefD := ⟨("_law_lo_arms", none), "_law_lo_arms", "_law_lo_arms", defArgs st_law_lo_arms, defBody st_law_lo_arms, defScope st_law_lo_arms, [], []⟩
def sp_law_lo_arms (K : Fg) : Sp := spD K (tabs K) (F_law_lo_arms K)
def t_law_lo_arms (K : Fg) (E : XK) : TS := (tSeq (tIfS (tNot (tB (tCB (rIsiU K (Cs K)) (tCons (tVar 0) (tCons (tC (.ty "tuple")) tNil))))) (tRet (tLst tNil)) tNext)
    (tSeq (tIfS (tTest (tOp (vIn K) (tOp (rIx K) (tVar 0) (tC (.int 0))) (tLst (tCons (tC (.str "plus")) (tCons (tC (.str "less")) (tCons (tC (.str "same")) (tCons (tC (.str "if")) tNil))))))) (tRet (tCB (uList K) (tCons (tSl (uSl K) (tVar 0) (tPart (tC (.int 1))) tNoPart) tNil))) tNext)
    (tRet (tIf (tTest (tOp (uEq K) (tOp (rIx K) (tVar 0) (tC (.int 0))) (tC (.str "call")))) (tCB (uList K) (tCons (tOp (rIx K) (tVar 0) (tC (.int 2))) tNil)) (tLst tNil)))))
abbrev st_law_lo_size : Stmt := (topS 43)
def d_law_lo_size : He.DefD := ⟨("_law_lo_size", none), "_law_lo_size", "_law_lo_size", defArgs st_law_lo_size, defBody st_law_lo_size, defScope st_law_lo_size, [], []⟩
def sp_law_lo_size (n : Nat) (K : Fg) : Sp := spD K (tabs K) (F_law_lo_size n K)
def t_law_lo_size (n : Nat) (K : Fg) (E : XK) : TS := (tRet (tOp (uAdd K) (tC (.int 1)) (tCB (rSum K) (tCons (tLc (iU K (tCall (sp_law_lo_arms K) [] eN (tCons (tVar 0) tNil))) (gName 1) tYes (tCall (sp_law_lo_size n K) [] eN (tCons (tVar 1) tNil)) [1]) tNil))))
abbrev st_law_lo_depth : Stmt := (topS 44)
def d_law_lo_depth : He.DefD := ⟨("_law_lo_depth", none), "_law_lo_depth", "_law_lo_depth", defArgs st_law_lo_depth, defBody st_law_lo_depth, defScope st_law_lo_depth, [], []⟩
def sp_law_lo_depth (n : Nat) (K : Fg) : Sp := spD K (tabs K) (F_law_lo_depth n K)
def t_law_lo_depth (n : Nat) (K : Fg) (E : XK) : TS := (tSeq (tAsg (tC (.int 0)) (gName 1))
    (tSeq (tFor (iU K (tCall (sp_law_lo_arms K) [] eN (tCons (tVar 0) tNil))) (gName 2) (tAsg (tCB uMax2 (tCons (tCB (uInt) (tCons (tVar 1) tNil)) (tCons (tCB (uInt) (tCons (tCall (sp_law_lo_depth n K) [] eN (tCons (tVar 2) tNil)) tNil)) tNil))) (gName 1)))
    (tRet (tOp (uAdd K) (tC (.int 1)) (tVar 1)))))
abbrev st_law_lo_is_term : Stmt := (topS 46)
def d_law_lo_is_term : He.DefD := ⟨("_law_lo_is_term", none), "_law_lo_is_term", "_law_lo_is_term", defArgs st_law_lo_is_term, defBody st_law_lo_is_term, defScope st_law_lo_is_term, [], []⟩
def sp_law_lo_is_term (K : Fg) : Sp := spD K (tabs K) (F_law_lo_is_term K)
def t_law_lo_is_term (K : Fg) (E : XK) : TS := (tRet (tAndV (tCall (sp_law_lo_is_formed 24 K) [] eN (tCons (tVar 0) (tCons (tVar 1) (tCons (tC (.int 99)) tNil)))) (tAndV (tOp uLe (tCall (sp_law_lo_size 24 K) [] eN (tCons (tVar 0) tNil)) (tC (.int 30))) (tOp uLe (tCall (sp_law_lo_depth 24 K) [] eN (tCons (tVar 0) tNil)) (tC (.int 8))))))
abbrev st_law_is_writes : Stmt := (topS 53)
def d_law_is_writes : He.DefD := ⟨("_law_is_writes", none), "_law_is_writes", "_law_is_writes", defArgs st_law_is_writes, defBody st_law_is_writes, defScope st_law_is_writes, [], []⟩
def sp_law_is_writes (K : Fg) : Sp := spD K (tabs K) (F_law_is_writes K)
def t_law_is_writes (K : Fg) (E : XK) : TS := (tSeq (tIfS (tOr (tAnd (tNot (tB (tCB (rIsiU K (Cs K)) (tCons (tVar 0) (tCons (tC (.ty "list")) tNil))))) (tNot (tB (tCB (rIsiU K (Cs K)) (tCons (tVar 0) (tCons (tC (.ty "tuple")) tNil)))))) (tTest (tOp uGt (tCB (uLen K) (tCons (tVar 0) tNil)) (tC (.int 3))))) (tRet (tC (.bl false))) tNext)
    (tSeq (tFor (iU K (tVar 0)) (gName 1) (tIfS (tOr (tNot (tB (tCB (rIsiU K (Cs K)) (tCons (tVar 1) (tCons (tC (.ty "tuple")) tNil))))) (tOr (tTest (tOp (uNe K) (tCB (uLen K) (tCons (tVar 1) tNil)) (tC (.int 2)))) (tNot (tB (tCall (sp_law_lo_is_name K) [] eN (tCons (tOp (rIx K) (tVar 1) (tC (.int 0))) tNil)))))) (tRet (tC (.bl false))) tNext))
    (tSeq (tAsg (tLc (iU K (tVar 0)) (gName 1) tYes (tOp (rIx K) (tVar 1) (tC (.int 0))) [1]) (gName 2))
    (tRet (tOp (uEq K) (tLc (iRng1 (tCons (tCB (uLen K) (tCons (tVar 2) tNil)) tNil)) (gName 3) (tTest (tOp (vIn K) (tOp (rIx K) (tVar 2) (tVar 3)) (tSl (uSl K) (tVar 2) tNoPart (tPart (tVar 3))))) (tVar 3) [3]) (tLst tNil))))))
abbrev st_law_lo_labels : Stmt := (topS 47)
def d_law_lo_labels : He.DefD := ⟨("_law_lo_labels", none), "_law_lo_labels", "_law_lo_labels", defArgs st_law_lo_labels, defBody st_law_lo_labels, defScope st_law_lo_labels, [], []⟩
def sp_law_lo_labels (K : Fg) : Sp := spD K (tabs K) (F_law_lo_labels K)
def t_law_lo_labels (K : Fg) (E : XK) : TS := (tRet (tLst (tCons (tC (.str "always")) (tCons (tC (.str "session")) (tCons (tC (.str "statement")) (tCons (tC (.str "changing")) tNil))))))
abbrev st_law_owed : Stmt := (topS 54)
def d_law_owed : He.DefD := ⟨("_law_owed", none), "_law_owed", "_law_owed", defArgs st_law_owed, defBody st_law_owed, defScope st_law_owed, [], []⟩
def sp_law_owed (K : Fg) : Sp := spD K (tabs K) (F_law_owed K)
def t_law_owed (K : Fg) (E : XK) : TS := (tSeq (tIfS (tNot (tB (tCall (sp_law_lo_is_name K) [] eN (tCons (tVar 0) tNil)))) (tRet (tTup (tCons (tC (.str "BadPart")) (tCons (tC (.str "name")) tNil)))) tNext)
    (tSeq (tIfS (tNot (tB (tCall (sp_law_lo_is_whole K) [] eN (tCons (tVar 1) (tCons (tC (.int 0)) (tCons (tC (.int 2)) tNil)))))) (tRet (tTup (tCons (tC (.str "BadPart")) (tCons (tC (.str "arguments")) tNil)))) tNext)
    (tSeq (tIfS (tAnd (tNot (tB (tCB (rIsiU K (Cs K)) (tCons (tVar 3) (tCons (tC (.ref (He.ga K "Label"))) tNil))))) (tOr (tNot (tB (tCB (rIsiU K (Cs K)) (tCons (tVar 3) (tCons (tC (.ty "str")) tNil))))) (tTest (tOp (vNin K) (tVar 3) (tCall (sp_law_lo_labels K) [] eN tNil))))) (tRet (tTup (tCons (tC (.str "BadLabel")) (tCons (tVar 3) tNil)))) tNext)
    (tSeq (tIfS (tNot (tB (tCall (sp_law_lo_is_term K) [] eN (tCons (tVar 2) (tCons (tVar 1) tNil))))) (tRet (tTup (tCons (tC (.str "BadTerm")) (tCons (tVar 2) tNil)))) tNext)
    (tSeq (tIfS (tNot (tB (tCall (sp_law_is_writes K) [] eN (tCons (tVar 4) tNil)))) (tRet (tTup (tCons (tC (.str "BadPart")) (tCons (tC (.str "writes")) tNil)))) tNext)
    (tSeq (tAsg (tLc (iU K (tVar 4)) (gTup K 2 (gCons (gName 7) (gCons (gName 8) gNil))) (tNot (tB (tCall (sp_law_lo_is_term K) [] eN (tCons (tVar 8) (tCons (tVar 1) tNil))))) (tVar 8) [7, 8]) (gName 6))
    (tSeq (tIfS (tTest (tOp (uNe K) (tVar 6) (tLst tNil))) (tRet (tTup (tCons (tC (.str "BadTerm")) (tCons (tOp (rIx K) (tVar 6) (tC (.int 0))) tNil)))) tNext)
    (tRet (tIf (tB (tCall (sp_law_lo_is_whole K) [] eN (tCons (tVar 5) (tCons (tC (.int 0)) (tCons (tC (.int 99)) tNil))))) (tC .non) (tTup (tCons (tC (.str "BadPart")) (tCons (tC (.str "cost")) tNil))))))))))))
abbrev st_Function_changed : Stmt := (inClass (topS 33) 5)
def d_Function_changed : He.DefD := ⟨("Function", some "changed"), "changed", "Function.changed", defArgs st_Function_changed, defBody st_Function_changed, defScope st_Function_changed, [], []⟩
def sp_Function_changed (K : Fg) : Sp := spD K (tabs K) (F_Function_changed K)
def t_Function_changed (K : Fg) (E : XK) : TS := (tSeq (tIfS (tOr (tNot (tB (tCB (rIsiU K (Cs K)) (tCons (tVar 1) (tCons (tC (.ty "str")) tNil))))) (tTest (tOp (vNin K) (tVar 1) (tC (.ref (He.ga K "PARTS")))))) (tRz (He.ga K "BadPart") (sp_BadPart___init K) E (tCons (tVar 1) tNil)) tNext)
    (tSeq (tIfS (tTest (tOp (uEq K) (tVar 1) (tC (.str "result")))) (tRet (tMeth (He.ga K "Function") "with_parts" (sp_Function_with_parts K) [] E (tVar 0) (tCons (tVar 2) (tCons (oFld (fC_label K) "label" (tVar 0)) (tCons (oFld (fC_writes K) "writes" (tVar 0)) (tCons (oFld (fC_cost K) "cost" (tVar 0)) tNil)))))) tNext)
    (tSeq (tIfS (tTest (tOp (uEq K) (tVar 1) (tC (.str "writes")))) (tRet (tMeth (He.ga K "Function") "with_parts" (sp_Function_with_parts K) [] E (tVar 0) (tCons (oFld (fC_result K) "result" (tVar 0)) (tCons (oFld (fC_label K) "label" (tVar 0)) (tCons (tVar 2) (tCons (oFld (fC_cost K) "cost" (tVar 0)) tNil)))))) tNext)
    (tRet (tMeth (He.ga K "Function") "with_parts" (sp_Function_with_parts K) [] E (tVar 0) (tCons (oFld (fC_result K) "result" (tVar 0)) (tCons (oFld (fC_label K) "label" (tVar 0)) (tCons (oFld (fC_writes K) "writes" (tVar 0)) (tCons (tVar 2) tNil)))))))))
abbrev st_law_heard_changed : Stmt := (topS 61)
def d_law_heard_changed : He.DefD := ⟨("_law_heard_changed", none), "_law_heard_changed", "_law_heard_changed", defArgs st_law_heard_changed, defBody st_law_heard_changed, defScope st_law_heard_changed, [], []⟩
def sp_law_heard_changed (K : Fg) : Sp := spD K (tabs K) (F_law_heard_changed K)
def t_law_heard_changed (K : Fg) (E : XK) : TS := (tRet (tLamM (tabs K) (TTh K "told" (hL K)) [] fun E => (oFld (fC_name K) "name" (tMeth (He.ga K "Function") "changed" (sp_Function_changed K) [] E (tVar 0) (tCons (tVar 1) (tCons (tVar 2) tNil))))))
abbrev st_law_is_refused : Stmt := (topS 49)
def d_law_is_refused : He.DefD := ⟨("_law_is_refused", none), "_law_is_refused", "_law_is_refused", defArgs st_law_is_refused, defBody st_law_is_refused, defScope st_law_is_refused, [], []⟩
def sp_law_is_refused (K : Fg) : Sp := spD K (tabs K) (F_law_is_refused K)
def t_law_is_refused (K : Fg) (E : XK) : TS := (tSeq (tAsg (tVar 0) (gTup K 2 (gCons (gName 3) (gCons (gName 4) gNil))))
    (tSeq (tIfS (tOr (tTest (tOp (uNe K) (tVar 3) (tVar 1))) (tTest (tOp (uNe K) (tCB (rIsiU K (Cs K)) (tCons (tVar 4) (tCons (tC (.ty "bool")) tNil))) (tCB (rIsiU K (Cs K)) (tCons (tVar 2) (tCons (tC (.ty "bool")) tNil)))))) (tRet (tC (.bl false))) tNext)
    (tRet (tIf (tTest (tOp uIsN (tVar 2) (tC .non))) (tOp uIsN (tVar 4) (tC .non)) (tCB (uBool) (tCons (tOp (uEq K) (tVar 4) (tVar 2)) tNil))))))
abbrev st_law_changes_right : Stmt := (topS 60)
def d_law_changes_right : He.DefD := ⟨("_law_changes_right", none), "_law_changes_right", "_law_changes_right", defArgs st_law_changes_right, defBody st_law_changes_right, defScope st_law_changes_right, [], []⟩
def sp_law_changes_right (K : Fg) : Sp := spJ K (tabs K) (F_law_changes_right K)
def t_law_changes_right (K : Fg) (E : XK) : TS := (tSeq (tFor (iU K (tLst (tCons (tTup (tCons (tC (.int 2)) (tCons (tC (.str "result")) tNil))) (tCons (tTup (tCons (tC (.int 4)) (tCons (tC (.str "writes")) tNil))) (tCons (tTup (tCons (tC (.int 5)) (tCons (tC (.str "cost")) tNil))) tNil))))) (gTup K 2 (gCons (gName 4) (gCons (gName 5) gNil))) (tFor (iU K (tOp (rIx K) (tVar 3) (tVar 4))) (gName 6) (tSeq (tAsg (tOp (uAdd K) (tOp (uAdd K) (tSl (uSl K) (tVar 2) tNoPart (tPart (tVar 4))) (tLst (tCons (tVar 6) tNil))) (tSl (uSl K) (tVar 2) (tPart (tOp (uAdd K) (tVar 4) (tC (.int 1)))) tNoPart)) (gName 7))
    (tSeq (tAsg (tCall (sp_law_owed K) [] eN (tCons (tOp (rIx K) (tVar 7) (tC (.int 0))) (tCons (tOp (rIx K) (tVar 7) (tC (.int 1))) (tCons (tOp (rIx K) (tVar 7) (tC (.int 2))) (tCons (tOp (rIx K) (tVar 7) (tC (.int 3))) (tCons (tOp (rIx K) (tVar 7) (tC (.int 4))) (tCons (tOp (rIx K) (tVar 7) (tC (.int 5))) tNil))))))) (gName 8))
    (tSeq (tAsg (tCall (sp_law_heard_changed K) [] eN (tCons (tVar 1) (tCons (tVar 5) (tCons (tVar 6) tNil)))) (gName 9))
    (tSeq (tIfS (tAnd (tTest (tOp uIsN (tVar 8) (tC .non))) (tNot (tB (tCall (sp_law_yq_same 7 K) [] eN (tCons (tVar 9) (tCons (tTup (tCons (tC (.str "told")) (tCons (tOp (rIx K) (tVar 2) (tC (.int 0))) tNil))) tNil)))))) (tRet (tC (.bl false))) tNext)
    (tIfS (tAnd (tTest (tOp uNotN (tVar 8) (tC .non))) (tNot (tB (tCall (sp_law_is_refused K) [] eN (tCons (tVar 9) (tCons (tOp (rIx K) (tVar 8) (tC (.int 0))) (tCons (tOp (rIx K) (tVar 8) (tC (.int 1))) tNil))))))) (tRet (tC (.bl false))) tNext)))))))
    (tSeq (tFor (iU K (tOp (rIx K) (tVar 3) (tC (.int 3)))) (gName 6) (tSeq (tAsg (tCall (sp_law_heard_labelled K) [] eN (tCons (tVar 1) (tCons (tVar 6) tNil))) (gName 9))
    (tIfS (tOr (tB (tCB (rIsiU K (Cs K)) (tCons (tVar 6) (tCons (tC (.ref (He.ga K "Label"))) tNil)))) (tAnd (tB (tCB (rIsiU K (Cs K)) (tCons (tVar 6) (tCons (tC (.ty "str")) tNil)))) (tTest (tOp (vIn K) (tVar 6) (tCall (sp_law_lo_labels K) [] eN tNil))))) (tIfS (tNot (tB (tCall (sp_law_yq_same 7 K) [] eN (tCons (tVar 9) (tCons (tTup (tCons (tC (.str "told")) (tCons (tOp (rIx K) (tVar 2) (tC (.int 0))) tNil))) tNil))))) (tRet (tC (.bl false))) tNext) (tIfS (tNot (tB (tCall (sp_law_is_refused K) [] eN (tCons (tVar 9) (tCons (tC (.str "BadLabel")) (tCons (tVar 6) tNil)))))) (tRet (tC (.bl false))) tNext))))
    (tRet (tC (.bl true)))))
abbrev st_law_heard_function : Stmt := (topS 55)
def d_law_heard_function : He.DefD := ⟨("_law_heard_function", none), "_law_heard_function", "_law_heard_function", defArgs st_law_heard_function, defBody st_law_heard_function, defScope st_law_heard_function, [], []⟩
def sp_law_heard_function (K : Fg) : Sp := spD K (tabs K) (F_law_heard_function K)
def t_law_heard_function (K : Fg) (E : XK) : TS := (tSeq (tAsg (tVar 0) (gLst K 6 (gCons (gName 1) (gCons (gName 2) (gCons (gName 3) (gCons (gName 4) (gCons (gName 5) (gCons (gName 6) gNil))))))))
    (tRet (tLamM (tabs K) (TTh K "told" (hL K)) [] fun E => (oFld (fC_name K) "name" (tMakeK (He.ga K "Function") 3 3 (sp_Function___init K) (fun vs zs => vs ++ zs) E (tCons (tVar 1) (tCons (tVar 2) (tCons (tVar 3) tNil))) (tCons (tVar 4) (tCons (tVar 5) (tCons (tVar 6) tNil))))))))
abbrev st_law_row_right : Stmt := (topS 56)
def d_law_row_right : He.DefD := ⟨("_law_row_right", none), "_law_row_right", "_law_row_right", defArgs st_law_row_right, defBody st_law_row_right, defScope st_law_row_right, [], []⟩
def sp_law_row_right (K : Fg) : Sp := spD K (tabs K) (F_law_row_right K)
def t_law_row_right (K : Fg) (E : XK) : TS := (tSeq (tAsg (tCall (sp_law_owed K) [] eN (tCons (tOp (rIx K) (tVar 0) (tC (.int 0))) (tCons (tOp (rIx K) (tVar 0) (tC (.int 1))) (tCons (tOp (rIx K) (tVar 0) (tC (.int 2))) (tCons (tOp (rIx K) (tVar 0) (tC (.int 3))) (tCons (tOp (rIx K) (tVar 0) (tC (.int 4))) (tCons (tOp (rIx K) (tVar 0) (tC (.int 5))) tNil))))))) (gName 1))
    (tSeq (tAsg (tCall (sp_law_heard_function K) [] eN (tCons (tVar 0) tNil)) (gName 2))
    (tSeq (tIfS (tTest (tOp uIsN (tVar 1) (tC .non))) (tRet (tCall (sp_law_yq_same 7 K) [] eN (tCons (tVar 2) (tCons (tTup (tCons (tC (.str "told")) (tCons (tOp (rIx K) (tVar 0) (tC (.int 0))) tNil))) tNil)))) tNext)
    (tRet (tCall (sp_law_is_refused K) [] eN (tCons (tVar 2) (tCons (tOp (rIx K) (tVar 1) (tC (.int 0))) (tCons (tOp (rIx K) (tVar 1) (tC (.int 1))) tNil))))))))
abbrev st_law_function_right : Stmt := (topS 58)
def d_law_function_right : He.DefD := ⟨("_law_function_right", none), "_law_function_right", "_law_function_right", defArgs st_law_function_right, defBody st_law_function_right, defScope st_law_function_right, [], []⟩
def sp_law_function_right (K : Fg) : Sp := spJ K (tabs K) (F_law_function_right K)
def t_law_function_right (K : Fg) (E : XK) : TS := (tSeq (tAsg (tCall (sp_law_take K) [] eN (tCons (tVar 0) (tCons (tC (.int 3)) tNil))) (gName 1))
    (tSeq (tAsg (tLst (tCons (tC (.str "f")) (tCons (tVar 1) (tCons (tTup (tCons (tC (.str "plus")) (tCons (tC (.int 1)) (tCons (tTup (tCons (tC (.str "cell")) (tCons (tC (.str "z")) tNil))) tNil)))) (tCons (tC (.str "changing")) (tCons (tLst (tCons (tTup (tCons (tC (.str "z")) (tCons (tC (.int 1)) tNil))) (tCons (tTup (tCons (tC (.str "y")) (tCons (tTup (tCons (tC (.str "tick")) tNil)) tNil))) tNil))) (tCons (tC (.int 7)) tNil))))))) (gName 2))
    (tSeq (tAsg (tCall (sp_law_odds K) [] eN (tCons (tVar 0) (tCons (tVar 1) tNil))) (gName 3))
    (tSeq (tFor (iRng1 (tCons (tC (.int 6)) tNil)) (gName 4) (tFor (iU K (tOp (rIx K) (tVar 3) (tVar 4))) (gName 5) (tSeq (tAsg (tOp (uAdd K) (tOp (uAdd K) (tSl (uSl K) (tVar 2) tNoPart (tPart (tVar 4))) (tLst (tCons (tVar 5) tNil))) (tSl (uSl K) (tVar 2) (tPart (tOp (uAdd K) (tVar 4) (tC (.int 1)))) tNoPart)) (gName 6))
    (tSeq (tAsg (tCall (sp_law_take K) [] eN (tCons (tVar 0) (tCons (tC (.int 6)) tNil))) (gName 7))
    (tSeq (tAsg (tIf (tTest (tOp (uNe K) (tVar 7) (tVar 4))) (tOp (uAdd K) (tOp (uAdd K) (tSl (uSl K) (tVar 6) tNoPart (tPart (tVar 7))) (tLst (tCons (tCall (sp_law_one K) [] eN (tCons (tVar 0) (tCons (tOp (rIx K) (tVar 3) (tVar 7)) tNil))) tNil))) (tSl (uSl K) (tVar 6) (tPart (tOp (uAdd K) (tVar 7) (tC (.int 1)))) tNoPart)) (tVar 6)) (gName 8))
    (tIfS (tOr (tNot (tB (tCall (sp_law_row_right K) [] eN (tCons (tVar 6) tNil)))) (tNot (tB (tCall (sp_law_row_right K) [] eN (tCons (tVar 8) tNil))))) (tRet (tC (.bl false))) tNext))))))
    (tSeq (tAsg (tLc (iU K (tOp (rIx K) (tVar 3) (tC (.int 2)))) (gName 10) tYes (tCall (sp_law_heard_term K) [] eN (tCons (tVar 10) (tCons (tVar 1) tNil))) [10]) (gName 9))
    (tSeq (tIfS (tNot (tB (tCall (sp_law_yq_same 7 K) [] eN (tCons (tVar 9) (tCons (tLc (iU K (tOp (rIx K) (tVar 3) (tC (.int 2)))) (gName 10) tYes (tTup (tCons (tC (.str "told")) (tCons (tCall (sp_law_lo_is_term K) [] eN (tCons (tVar 10) (tCons (tVar 1) tNil))) tNil))) [10]) tNil))))) (tRet (tC (.bl false))) tNext)
    (tSeq (tAsg (tLamM (tabs K) (TTh K "told" (hL K)) [] fun E => (tMakeK (He.ga K "Function") 3 3 (sp_Function___init K) (fun vs zs => vs ++ zs) eN (tCons (tOp (rIx K) (tVar 2) (tC (.int 0))) (tCons (tOp (rIx K) (tVar 2) (tC (.int 1))) (tCons (tOp (rIx K) (tVar 2) (tC (.int 2))) tNil))) (tCons (tOp (rIx K) (tVar 2) (tC (.int 3))) (tCons (tOp (rIx K) (tVar 2) (tC (.int 4))) (tCons (tOp (rIx K) (tVar 2) (tC (.int 5))) tNil))))) (gTup K 2 (gCons (gName 11) (gCons (gName 12) gNil))))
    (tRet (tAndV (tOp (uEq K) (tVar 11) (tC (.str "told"))) (tCall (sp_law_changes_right K) [] eN (tCons (tVar 0) (tCons (tVar 12) (tCons (tVar 2) (tCons (tVar 3) tNil))))))))))))))
abbrev st_law : Stmt := (topS 63)
def d_law : He.DefD := ⟨("law", none), "law", "law", defArgs st_law, defBody st_law, defScope st_law, [], []⟩
def sp_law (K : Fg) : Sp := spD K (tabs K) (F_law K)
def t_law (K : Fg) (E : XK) : TS := (tSeq (tAsg (tCall (sp_law_pool K) [] eN (tCons (tVar 0) tNil)) (gName 1))
    (tRet (tOp (uEq K) (tLc (iRng1 (tCons (tC (.int 4)) tNil)) (gName 2) (tNot (tB (tCall (sp_law_function_right K) [] eN (tCons (tVar 1) tNil)))) (tC (.int 1)) [2]) (tLst tNil))))
def fa : List He.Fa := [.free "range", .free "len", .free "max", .free "int", .glo "_law_pool", .glo "_law_take", .glo "_law_one", .glo "_law_deep", .glo "_law_wide", .glo "_law_terms", .free "isinstance", .free "str", .glo "LABELS", .glo "is_label_name", .glo "StoreError", .glo "BadLabel", .mkr "Label", .glo "Label", .glo "_law_odds", .free "tuple", .glo "PAIRS", .glo "inner_terms", .glo "has_kind", .free "bool", .glo "is_integer", .glo "is_between", .int "MOST_VALUE" 2, .glo "is_value", .int "MOST_LETTERS" 8, .free "all", .str "LETTERS" "abcdefghijklmnopqrstuvwxyz", .glo "is_name", .int "MOST_ARGUMENTS" 2, .free "any", .glo "has_form", .int "MOST_DEPTH" 8, .int "MOST_PARTS" 30, .glo "is_term", .glo "_law_heard_term", .glo "_law_yq_is_whole", .free "list", .glo "_law_yq_same", .glo "made_label", .glo "BadPart", .glo "BadTerm", .int "MOST_WRITES" 3, .free "enumerate", .glo "are_writes", .int "MOST_COST" 99, .mkr "Function", .glo "Function", .cls "Function", .meth "Function" "with_parts", .meth "Function" "labelled", .glo "_law_heard_labelled", .glo "_law_lo_is_name", .glo "_law_lo_is_whole", .glo "_law_lo_is_formed", .glo "_law_lo_arms", .free "sum", .glo "_law_lo_size", .glo "_law_lo_depth", .glo "_law_lo_is_term", .glo "_law_is_writes", .glo "_law_lo_labels", .glo "_law_owed", .glo "PARTS", .meth "Function" "changed", .glo "_law_heard_changed", .glo "_law_is_refused", .glo "_law_changes_right", .glo "_law_heard_function", .glo "_law_row_right", .glo "_law_function_right", .glo "law", .glo "_law_heard", .exm "BadLabel" "BadLabel" true, .exm "BadPart" "BadLabel" false, .exm "BadPart" "BadPart" true, .exm "BadTerm" "BadLabel" false, .exm "BadTerm" "BadPart" false, .exm "BadTerm" "BadTerm" true, .cls "Label", .noat "Label" "name", .noat "Function" "name", .noat "Function" "arguments", .noat "Function" "result", .noat "Function" "label", .noat "Function" "writes", .noat "Function" "cost", .noat "Label" "height"]
def fn : List He.DefD := [d_law_pool, d_law_take, d_law_one, d_law_deep, d_law_wide, d_law_terms, d_is_label_name, d_BadLabel___init, d_Label___init, d_law_odds, d_law_heard, d_inner_terms, d_has_kind, d_is_integer, d_is_between, d_is_value, d_is_name, d_has_form, d_is_term, d_law_heard_term, d_law_yq_is_whole, d_law_yq_same, d_made_label, d_BadPart___init, d_BadTerm___init, d_are_writes, d_Function___init, d_Function_with_parts, d_Function_labelled, d_law_heard_labelled, d_law_lo_is_name, d_law_lo_is_whole, d_law_lo_is_formed, d_law_lo_arms, d_law_lo_size, d_law_lo_depth, d_law_lo_is_term, d_law_is_writes, d_law_lo_labels, d_law_owed, d_Function_changed, d_law_heard_changed, d_law_is_refused, d_law_changes_right, d_law_heard_function, d_law_row_right, d_law_function_right, d_law]
def exB (K : Fg) : Bool := (excB K "BadLabel" "label") && ((excB K "BadPart" "part") && ((excB K "BadTerm" "term") && ((stB K (He.ga K "StoreError")) && ((decide ((tf.map fun q => (He.cT K q).2).Nodup)) && ((isFB K (Cs K)) && ((tupSB K (He.ga K "LABELS") ["always", "session", "statement", "changing"]) && ((tupSB K (He.ga K "PAIRS") ["plus", "less", "same"]) && ((tupSB K (He.ga K "PARTS") ["result", "writes", "cost"]) && ((decide (PySem.W.findIn K (.ref (He.ga K "Label")) "__ne__" = some (some (.builtin "object.__ne__")))) && ((decide (PySem.W.mroIn K (He.ga K "Label") (.type "tuple") = some false)) && ((decide (PySem.W.mroIn K (He.ga K "Label") (.type "list") = some false)) && ((decide (PySem.W.findIn K (.ref (He.ga K "Function")) "__ne__" = some (some (.builtin "object.__ne__")))) && ((decide (PySem.W.mroIn K (He.ga K "Function") (.type "tuple") = some false)) && ((decide (PySem.W.mroIn K (He.ga K "Function") (.type "list") = some false)) && (true)))))))))))))))
/-- what of the text the specs lean on -/
structure KF (K : Fg) : Prop where
  on : True
  exm_BadLabel_BadLabel : PySem.W.exmOne K (.ref (He.ga K "BadLabel")) (.ref (He.ga K "BadLabel")) = some true
  exm_BadPart_BadLabel : PySem.W.exmOne K (.ref (He.ga K "BadPart")) (.ref (He.ga K "BadLabel")) = some false
  exm_BadPart_BadPart : PySem.W.exmOne K (.ref (He.ga K "BadPart")) (.ref (He.ga K "BadPart")) = some true
  exm_BadTerm_BadLabel : PySem.W.exmOne K (.ref (He.ga K "BadTerm")) (.ref (He.ga K "BadLabel")) = some false
  exm_BadTerm_BadPart : PySem.W.exmOne K (.ref (He.ga K "BadTerm")) (.ref (He.ga K "BadPart")) = some false
  exm_BadTerm_BadTerm : PySem.W.exmOne K (.ref (He.ga K "BadTerm")) (.ref (He.ga K "BadTerm")) = some true
  c_LABELS : TupS K (He.ga K "LABELS") ["always", "session", "statement", "changing"]
  c_PAIRS : TupS K (He.ga K "PAIRS") ["plus", "less", "same"]
  c_PARTS : TupS K (He.ga K "PARTS") ["result", "writes", "cost"]
end Lp.Q

set_option Elab.async false
set_option linter.all false
set_option maxRecDepth 100000
set_option maxHeartbeats 4000000
/-! WG: the jar, the draws, the sameness of data. Own work. -/
namespace Lp.Q
open PySem PySem.Spec PyProof.Rows L2 LamX Lp
local macro_rules | `(tactic| walk_at "lp") => `(tactic| first
  | with_reducible refine s_seq ?_
  | with_reducible refine s_if ?_
  | with_reducible refine s_ret ?_
  | with_reducible refine s_next ?_
  | with_reducible refine s_asg ?_
  | with_reducible refine t_test ?_
  | with_reducible refine t_val ?_
  | with_reducible refine t_and ?_
  | with_reducible refine t_or ?_
  | with_reducible refine t_not ?_
  | ((with_reducible apply x_var); (focus rfl))
  | with_reducible refine x_non ?_
  | with_reducible refine x_bl ?_
  | with_reducible refine x_int ?_
  | with_reducible refine x_str ?_
  | with_reducible refine x_and ?_
  | with_reducible refine x_or ?_
  | with_reducible refine x_not ?_
  | with_reducible refine x_if ?_
  | with_reducible refine x_isInt ?_
  | with_reducible refine x_isBool ?_
  | with_reducible refine x_isStr ?_
  | with_reducible refine x_isTup ?_
  | with_reducible refine x_isLst ?_
  | with_reducible refine x_isDct ?_
  | ((with_reducible refine x_isObj ?_ ?_); (focus (simp [Cs])))
  | with_reducible refine x_isi2 ?_
  | with_reducible refine x_len ?_
  | with_reducible refine x_eq ?_
  | with_reducible refine x_ne ?_
  | with_reducible refine x_ix ?_
  | with_reducible refine x_fld ?_
  | with_reducible refine x_tup ?_
  | with_reducible refine x_call ?_
  | with_reducible refine x_make ?_
  | with_reducible refine x_meth ?_
  | with_reducible refine x_makeN ?_
  | with_reducible refine x_callP ?_
  | with_reducible refine x_makeP ?_
  | with_reducible refine x_makeNP ?_
  | with_reducible refine x_sum ?_
  | with_reducible refine i_rng3 ?_
  | with_reducible refine x_methP ?_
  | ((with_reducible apply x_callJ); (focus rfl))
  | with_reducible refine a_cons ?_
  | with_reducible refine a_nil ?_
  | ((with_reducible apply b_own); (focus rfl))
  | ((with_reducible apply b_var); (focus rfl))
  | with_reducible refine EX.eb ?_
  | with_reducible refine l_list ?_
  | with_reducible refine l_lst ?_
  | with_reducible refine l_revL ?_
  | with_reducible refine l_sortS ?_
  | with_reducible refine i_u ?_
  | with_reducible refine i_rng1 ?_
  | with_reducible refine i_rng2 ?_
  | with_reducible refine i_enum ?_
  | with_reducible refine x_isNB ?_
  | with_reducible refine x_notNB ?_
  | with_reducible refine x_tuple ?_
  | with_reducible refine x_int1 ?_
  | with_reducible refine x_bool1 ?_
  | with_reducible refine x_str1 ?_
  | with_reducible refine x_max2 ?_
  | with_reducible refine x_sub ?_
  | with_reducible refine x_mod ?_
  | with_reducible refine x_fdiv ?_
  | with_reducible refine x_pow ?_
  | with_reducible refine x_gt ?_
  | with_reducible refine x_ge ?_
  | with_reducible refine x_le ?_
  | with_reducible refine x_neg ?_
  | with_reducible refine s_retN ?_
  | with_reducible refine s_raise ?_
  | with_reducible refine s_brk ?_
  | with_reducible refine s_ct ?_
  | with_reducible refine le_le ?_
  | with_reducible refine le_lt ?_
  | with_reducible refine o_no ?_
  | with_reducible refine tyes ?_
  | with_reducible refine x_l_lst ?_
  | with_reducible refine x_l_lc ?_
  | with_reducible refine x_l_list ?_
  | with_reducible refine x_l_sort ?_
  | with_reducible refine x_l_rev ?_
  | with_reducible refine o_at ?_)
local macro_rules | `(tactic| walk_at "an") => `(tactic| first
  | refine ⟨trivial, ?_⟩
  | refine ⟨_, _, rfl, rfl, ?_⟩
  | refine bt ?_
  | refine bf ?_
  | refine nbt ?_
  | refine nbf ?_
  | refine ot ?_
  | refine of ?_
  | refine not_ ?_
  | refine nof ?_
  | refine ⟨true, _, rfl, ?_⟩
  | refine ⟨false, _, rfl, ?_⟩
  | refine .inl ⟨true, _, rfl, ?_⟩
  | refine .inl ⟨false, _, rfl, ?_⟩
  | refine ct ?_
  | refine cf ?_
  | refine ct' ?_
  | refine cf' ?_
  | (refine ⟨okd_int _, okd_int _, ?_⟩; rw [eqD_I]; try rw [dec_refl])
  | (refine ⟨okd_bl _, okd_bl _, ?_⟩; rw [eqD_B]; try rw [dec_refl]))
local macro_rules | `(tactic| walk_at "go") => `(tactic| repeat (first | walk_at "lp" | walk_at "an"))
theorem w_law_yq_is_whole (K : Fg) (E : XK) : OkD K (tabs K) E (F_law_yq_is_whole K) 1 0 (t_law_yq_is_whole K E) := by
  rintro ds P X ⟨d, rfl, hty, p⟩
  refine ⟨rfl, ?_⟩
  unfold t_law_yq_is_whole
  repeat walk_at "lp"
  refine ⟨ty_any hty, bb (fun h => ?_) fun h => ?_⟩
  · repeat walk_at "lp"
    refine ⟨ty_any hty, _, rfl, ?_⟩
    cases d <;> first | exact p | cases h
  · cases d <;> first | exact p | cases h
theorem w_law_take (K : Fg) : OkJO K (tabs K) (F_law_take K) 3 1 (t_law_take K eN) := by
  rintro E j a b c ds P ⟨m, rfl, hm1, hm2, p⟩ hb1 hb2
  refine ⟨rfl, ?_⟩
  unfold t_law_take
  show SW K _ E _ _ [.own j (intsD [a, b, c]), .val (.int m), .emp] _ _ _ _
  have hlog := log2_lt hm1 hm2
  repeat walk_at "lp"
  refine ⟨true, _, 0, 0, .int a, rfl, rfl, rfl, rfl, ?_⟩
  walk_at "lp"
  refine ⟨a, 0, rfl, rfl, bb (fun h => ?_) fun h => ?_⟩
  · repeat walk_at "lp"
    refine ⟨true, _, 0, 0, .int a, rfl, rfl, rfl, rfl, a, rfl, ?_⟩
    walk_at "lp"
    refine ⟨a, m, rfl, rfl, hm1, ?_⟩
    walk_at "lp"
    refine s_asgG (L := []) ?_
    repeat walk_at "lp"
    refine ⟨true, _, 0, 0, .int a, rfl, rfl, rfl, rfl, ?_⟩
    walk_at "lp"
    refine ⟨a, m, rfl, rfl, ⟨hm1, hlog⟩, ?_⟩
    refine g_sub rfl ?_
    walk_at "lp"
    refine ⟨0, 0, rfl, rfl, ?_⟩
    repeat walk_at "lp"
    exact ⟨⟨_, rfl⟩, p _ (Int.emod_nonneg _ (by omega)) (Int.emod_lt_of_pos _ hm1), a / m, b, c, rfl, hb1, hb2⟩
  · repeat walk_at "lp"
    refine s_asgG (L := []) ?_
    refine x_add ?_
    repeat walk_at "lp"
    refine ⟨true, _, 2, 2, .int c, rfl, rfl, rfl, rfl, ?_⟩
    walk_at "lp"
    refine ⟨c, 1, rfl, rfl, ?_⟩
    refine g_sub rfl ?_
    walk_at "lp"
    refine ⟨2, 2, rfl, rfl, ?_⟩
    walk_at "lp"
    refine s_asgG (L := []) ?_
    repeat walk_at "lp"
    refine x_add (x_add (x_mul ?_))
    repeat walk_at "lp"
    refine ⟨true, intsD [a, b, c + 1], 1, 1, .int b, rfl, rfl, rfl, rfl, ?_⟩
    walk_at "lp"
    refine ⟨b, 39373, rfl, rfl, .inl (.inr (by decide)), ?_⟩
    refine x_mul ?_
    repeat walk_at "lp"
    refine ⟨true, intsD [a, b, c + 1], 2, 2, .int (c + 1), rfl, rfl, rfl, rfl, _, _, rfl, rfl, .inl (.inl (by decide)), _, _, rfl, rfl, ?_⟩
    walk_at "lp"
    refine ⟨_, _, rfl, rfl, _, rfl, ?_⟩
    walk_at "lp"
    refine ⟨_, _, rfl, rfl, by decide, ?_⟩
    refine g_sub rfl ?_
    walk_at "lp"
    refine ⟨1, 1, rfl, rfl, ?_⟩
    generalize hb' : (b * 39373 + 7919 * (c + 1) + 7) % 2147483647 = b'
    have hb3 : 0 ≤ b' := by rw [← hb']; exact Int.emod_nonneg _ (by decide)
    have hb4 : b' < 2147483647 := by rw [← hb']; exact Int.emod_lt_of_pos _ (by decide)
    repeat walk_at "lp"
    refine x_mul ?_
    repeat walk_at "lp"
    refine ⟨true, intsD [a, b', c + 1], 1, 1, .int b', rfl, rfl, rfl, rfl, ?_⟩
    repeat walk_at "lp"
    refine ⟨true, intsD [a, b', c + 1], 1, 1, .int b', rfl, rfl, rfl, rfl, _, _, rfl, rfl, .inl (.inl ⟨by omega, by omega⟩), _, rfl, ?_⟩
    walk_at "lp"
    refine ⟨_, _, rfl, rfl, by decide, ?_⟩
    walk_at "lp"
    refine ⟨_, _, rfl, rfl, ⟨by decide, by decide⟩, _, rfl, ?_⟩
    walk_at "lp"
    refine ⟨_, _, rfl, rfl, hm1, ⟨_, rfl⟩, p _ (Int.emod_nonneg _ (by omega)) (Int.emod_lt_of_pos _ hm1), a, b', c + 1, rfl, hb3, hb4⟩
theorem w_law_one (K : Fg) : OkJ K (tabs K) (F_law_one K) 2 0 (t_law_one K eN) := by
  rintro E j ds P ⟨b, xs, rfl, hne, hlen, p⟩
  refine ⟨rfl, ?_⟩
  unfold t_law_one sp_law_take
  show SW K _ E _ _ [.jar j, .val (sqD b xs)] _ _ _ _
  have hpos : 0 < xs.length := List.length_pos_iff.mpr hne
  repeat walk_at "lp"
  refine .inl ⟨b, xs, rfl, ?_⟩
  walk_at "lp"
  refine ⟨xs.length, rfl, by omega, by omega, fun i h1 h2 => ?_⟩
  obtain ⟨k, rfl⟩ := Int.eq_ofNat_of_zero_le h1
  have hk : k < xs.length := by omega
  exact ⟨b, xs, _, k, xs[k], rfl, rfl, ixN_of hk, List.getElem?_eq_getElem hk, p _ (List.getElem_mem hk)⟩
theorem w_law_pool (K : Fg) (E : XK) : OkD K (tabs K) E (F_law_pool K) 5 4 (t_law_pool K E) := by
  rintro ds P X ⟨ns, rfl, hlen, hbits, p⟩
  refine ⟨rfl, ?_⟩
  unfold t_law_pool
  show SW K _ E X _ [.val (.lst (ns.map .int)), .emp, .emp, .emp, .emp] _ _ _ _
  walk_at "lp"
  refine s_asgG (L := [1, 2]) ?_
  repeat walk_at "lp"
  refine ⟨by show 2 ≤ sizeLine; decide, ?_⟩
  refine g_p (p_tup rfl (ps_cons (p_name (by simp) rfl (ps_cons (p_name (by simp) rfl (ps_nil ?_))))))
  walk_at "lp"
  refine s_for ?_
  repeat walk_at "lp"
  refine .inl ⟨true, ns.map .int, rfl, _, rfl, by rw [List.length_map]; omega, by rw [List.length_map]; omega, fun i Γ' => ∃ dg st e3 e4, Γ' = [.val (.lst (ns.map .int)), .val (.int dg), .val (.int st), e3, e4] ∧ noOwn Γ' 3 = true ∧ noOwn Γ' 4 = true ∧ 0 ≤ dg ∧ 0 ≤ st ∧ st < 2147483647, [3],
    ⟨0, 7, .emp, .emp, rfl, rfl, rfl, by decide, by decide, by decide⟩, fun i d Γ' hd iv => ?_, fun Γ' iv => ?_⟩
  · obtain ⟨dg, st, e3, e4, rfl, n3, n4, h1, h2, h3⟩ := iv
    obtain ⟨hi, rfl⟩ := rgD_get hd
    have hi' : i < ns.length := by rw [List.length_map] at hi; omega
    have hix : ixN (ns.map Dt.int).length (0 + (i : Nat)) = some i := by rw [zero_add_nat]; exact ixN_of (by rw [List.length_map]; exact hi')
    refine g_p (p_name (by simp) n3 ?_)
    repeat walk_at "lp"
    refine ⟨true, _, _, i, _, rfl, rfl, hix, int_get hi', _, rfl, ?_⟩
    repeat walk_at "lp"
    refine ⟨1, rfl, ?_⟩
    repeat walk_at "lp"
    refine ⟨true, _, _, i, _, rfl, rfl, hix, int_get hi', _, _, rfl, rfl, _, rfl, _, _, rfl, rfl, ?_⟩
    generalize (if -1 - ns[i] > ns[i] then -1 - ns[i] else ns[i]) = cell
    repeat walk_at "lp"
    refine x_add (x_add (x_mul ?_))
    repeat walk_at "lp"
    refine ⟨_, _, rfl, rfl, .inl (.inr (by decide)), ?_⟩
    repeat walk_at "lp"
    refine ⟨_, _, rfl, rfl, by decide, _, _, rfl, rfl, ?_⟩
    repeat walk_at "lp"
    refine ⟨_, _, rfl, rfl, _, rfl, ?_⟩
    repeat walk_at "lp"
    refine ⟨_, _, rfl, rfl, by decide, ?_⟩
    generalize hst : (st * 48271 + cell % 2147483629 + 11) % 2147483647 = st'
    have hs1 : 0 ≤ st' := by rw [← hst]; exact Int.emod_nonneg _ (by decide)
    have hs2 : st' < 2147483647 := by rw [← hst]; exact Int.emod_lt_of_pos _ (by decide)
    repeat walk_at "lp"
    refine ⟨10, 12, rfl, rfl, ⟨by decide, by decide, by decide⟩, cell, _, rfl, rfl, bb (fun hge => ?_) fun hge => ⟨fun z => (nomatch z), fun _ => ?_⟩⟩
    · walk_at "lp"
      refine x_ltV ?_
      repeat walk_at "lp"
      refine ⟨10, 60, rfl, rfl, ⟨by decide, by decide, by decide⟩, dg, _, rfl, rfl, bb (fun hlt => ?_) fun hlt => ?_⟩
      · have hdl : dg < 10 ^ 60 := of_decide_eq_true hlt
        walk_at "lp"
        refine x_add (x_mul ?_)
        repeat walk_at "lp"
        refine ⟨10, 60, rfl, rfl, ⟨by decide, by decide, by decide⟩, dg, _, rfl, rfl, .inr ?_, ?_⟩
        · show dg.natAbs.log2 + ((10 : Int) ^ (60 : Int).toNat).natAbs.log2 < 1000000
          have e1 : ((10 : Int) ^ (60 : Int).toNat).natAbs.log2 < 1000 := by decide +kernel
          have e2 : dg.natAbs < 10 ^ 60 := by omega
          have e3 : dg.natAbs.log2 < 1000 := by
            by_cases hz : dg.natAbs = 0
            · rw [hz]; decide
            · exact (Nat.log2_lt hz).mpr (Nat.lt_trans e2 (by decide +kernel))
          omega
        · repeat walk_at "lp"
          refine ⟨10, 60, rfl, rfl, ⟨by decide, by decide, by decide⟩, cell, _, rfl, rfl, by decide, _, _, rfl, rfl, _, rfl, ?_⟩
          refine ⟨_, _, _, _, rfl, rfl, rfl, ?_, hs1, hs2⟩
          have a1 : 0 ≤ dg * (10 : Int) ^ (60 : Int).toNat := Int.mul_nonneg h1 (by decide)
          have a2 : 0 ≤ cell % (10 : Int) ^ (60 : Int).toNat := Int.emod_nonneg _ (by decide)
          omega
      · walk_at "lp"
        exact ⟨_, _, _, _, rfl, rfl, rfl, h1, hs1, hs2⟩
    · walk_at "lp"
      exact ⟨_, _, _, _, rfl, rfl, rfl, h1, hs1, hs2⟩
  · obtain ⟨dg, st, e3, e4, rfl, n3, n4, h1, h2, h3⟩ := iv
    refine s_retL ?_
    repeat walk_at "lp"
    exact ⟨by show 3 ≤ sizeLine; decide, p dg st 0 h2 h3⟩
theorem no_law_yq_same {K : Fg} {vs : List V} {H : Hp} {Q : VK} {E : XK} (h : sp_law_yq_same 0 K vs H Q E) : False := by
  obtain ⟨_, _, _, _, _, _, _, f, _⟩ := h
  exact f
theorem yq_seq (n : Nat) (K : Fg) (E : XK) {P : Rt → Prop} {X : XP} {b : Bool} {l : List Dt} (hok : Okd (sqD b l)) (hsz : szB (sqD b l) = true) (hdep : (toPy (sqD b l)).depth ≤ n) (p : P (.val (.bl true))) :
    SW K (tabs K) E X (t_law_yq_same n K E) [.val (sqD b l), .val (sqD b l), .emp] (fun _ => P (.val .non)) (fun r _ => P r) (fun _ => False) (fun _ => False) := by
  unfold t_law_yq_same
  rw [sz_sq, Bool.and_eq_true] at hsz
  have hlen : l.length ≤ 100000 := of_decide_eq_true hsz.1
  have hn : 1 ≤ n := Nat.le_trans sq_depth hdep
  obtain ⟨m, rfl⟩ : ∃ m, n = m + 1 := ⟨n - 1, by omega⟩
  have item : ∀ (i : Nat), i < l.length → ixN l.length (0 + (i : Nat)) = some i ∧ ∃ x, l[i]? = some x ∧ Okd x ∧ szB x = true ∧ (toPy x).depth ≤ m := fun i hi => by
    have hx : l[i]? = some l[i] := List.getElem?_eq_getElem hi
    obtain ⟨ok1, dp1⟩ := okd_item hok hdep hx
    exact ⟨by rw [zero_add_nat]; exact ixN_of hi, l[i], hx, ok1, sz_item hsz.2 hx, dp1⟩
  unfold sp_law_yq_same
  cases b with
  | true =>
    show SW K (tabs K) E X _ [.val (.lst l), .val (.lst l), .emp] _ _ _ _
    walk_at "go"
    refine s_for ?_
    walk_at "go"
    refine ⟨_, rfl, by omega, by omega, fun i Γ' => ∃ e, Γ' = [.val (.lst l), .val (.lst l), e] ∧ noOwn Γ' 2 = true, [2], ⟨.emp, rfl, rfl⟩, fun i d Γ' hd iv => ?_, fun Γ' iv => ?_⟩
    · obtain ⟨e, rfl, n2⟩ := iv
      obtain ⟨hi, rfl⟩ := rgD_get hd
      obtain ⟨hix, x, hx, ok1, sz1, dp1⟩ := item i (by omega)
      refine g_p (p_name (by simp) n2 ?_)
      repeat walk_at "lp"
      refine ⟨true, l, _, i, x, rfl, rfl, hix, hx, ?_⟩
      repeat walk_at "lp"
      refine ⟨true, l, _, i, x, rfl, rfl, hix, hx, ?_⟩
      walk_at "lp"
      refine ⟨x, rfl, ok1, sz1, dp1, nbt ?_⟩
      repeat walk_at "lp"
      exact ⟨_, rfl, rfl⟩
    · obtain ⟨e, rfl, n2⟩ := iv
      walk_at "go"
      exact p
  | false =>
    show SW K (tabs K) E X _ [.val (.tup l), .val (.tup l), .emp] _ _ _ _
    walk_at "go"
    refine s_for ?_
    walk_at "go"
    refine ⟨_, rfl, by omega, by omega, fun i Γ' => ∃ e, Γ' = [.val (.tup l), .val (.tup l), e] ∧ noOwn Γ' 2 = true, [2], ⟨.emp, rfl, rfl⟩, fun i d Γ' hd iv => ?_, fun Γ' iv => ?_⟩
    · obtain ⟨e, rfl, n2⟩ := iv
      obtain ⟨hi, rfl⟩ := rgD_get hd
      obtain ⟨hix, x, hx, ok1, sz1, dp1⟩ := item i (by omega)
      refine g_p (p_name (by simp) n2 ?_)
      repeat walk_at "lp"
      refine ⟨false, l, _, i, x, rfl, rfl, hix, hx, ?_⟩
      repeat walk_at "lp"
      refine ⟨false, l, _, i, x, rfl, rfl, hix, hx, ?_⟩
      walk_at "lp"
      refine ⟨x, rfl, ok1, sz1, dp1, nbt ?_⟩
      repeat walk_at "lp"
      exact ⟨_, rfl, rfl⟩
    · obtain ⟨e, rfl, n2⟩ := iv
      walk_at "go"
      exact p
theorem w_law_yq_same (n : Nat) (K : Fg) (E : XK) : OkD K (tabs K) E (F_law_yq_same (n + 1) K) 3 1 (t_law_yq_same n K E) := by
  rintro ds P X ⟨d, rfl, hok, hsz, hdep, p⟩
  refine ⟨rfl, ?_⟩
  show SW K _ E X _ [.val d, .val d, .emp] _ _ _ _
  cases d with
  | lst l => exact yq_seq (b := true) n K E hok hsz hdep p
  | tup l => exact yq_seq (b := false) n K E hok hsz hdep p
  | dct l => cases hok.1
  | obj C l => cases hok.1
  | non =>
    unfold t_law_yq_same
    walk_at "go"
    exact p
  | bl b =>
    unfold t_law_yq_same
    walk_at "go"
    cases b with
    | true =>
      walk_at "go"
      refine x_isB ?_
      walk_at "go"
      exact ⟨true, rfl, p⟩
    | false =>
      walk_at "go"
      refine x_isB ?_
      walk_at "go"
      exact ⟨false, rfl, p⟩
  | int i =>
    unfold t_law_yq_same sp_law_yq_is_whole
    walk_at "go"
    refine ⟨.int i, rfl, trivial, bt ?_⟩
    walk_at "go"
    exact p
  | str s =>
    unfold t_law_yq_same
    walk_at "go"
    refine ⟨hok, hok, ?_⟩
    rw [eqD_same hok]
    exact p
end Lp.Q

set_option Elab.async false
set_option linter.all false
set_option maxRecDepth 100000
set_option maxHeartbeats 4000000
/-! k04W1: words and terms of the program. Own work. -/
namespace Lp.Q
open PySem PySem.Spec PyProof.Rows L2 LamX Lp
local macro_rules | `(tactic| walk_at "lp") => `(tactic| first
  | with_reducible refine s_seq ?_
  | with_reducible refine s_if ?_
  | with_reducible refine s_ret ?_
  | with_reducible refine s_next ?_
  | with_reducible refine s_asg ?_
  | with_reducible refine t_test ?_
  | with_reducible refine t_val ?_
  | with_reducible refine t_and ?_
  | with_reducible refine t_or ?_
  | with_reducible refine t_not ?_
  | ((with_reducible apply x_var); (focus rfl))
  | with_reducible refine x_non ?_
  | with_reducible refine x_bl ?_
  | with_reducible refine x_int ?_
  | with_reducible refine x_str ?_
  | with_reducible refine x_and ?_
  | with_reducible refine x_or ?_
  | with_reducible refine x_not ?_
  | with_reducible refine x_if ?_
  | with_reducible refine x_isInt ?_
  | with_reducible refine x_isBool ?_
  | with_reducible refine x_isStr ?_
  | with_reducible refine x_isTup ?_
  | with_reducible refine x_isLst ?_
  | with_reducible refine x_isDct ?_
  | ((with_reducible refine x_isObj ?_ ?_); (focus (simp [Cs])))
  | with_reducible refine x_isi2 ?_
  | with_reducible refine x_len ?_
  | with_reducible refine x_eq ?_
  | with_reducible refine x_ne ?_
  | with_reducible refine x_ix ?_
  | with_reducible refine x_fld ?_
  | with_reducible refine x_tup ?_
  | with_reducible refine x_call ?_
  | with_reducible refine x_make ?_
  | with_reducible refine x_meth ?_
  | with_reducible refine x_makeN ?_
  | with_reducible refine x_callP ?_
  | with_reducible refine x_makeP ?_
  | with_reducible refine x_makeNP ?_
  | with_reducible refine x_sum ?_
  | with_reducible refine i_rng3 ?_
  | with_reducible refine x_methP ?_
  | ((with_reducible apply x_callJ); (focus rfl))
  | with_reducible refine a_cons ?_
  | with_reducible refine a_nil ?_
  | ((with_reducible apply b_own); (focus rfl))
  | ((with_reducible apply b_var); (focus rfl))
  | with_reducible refine EX.eb ?_
  | with_reducible refine l_list ?_
  | with_reducible refine l_lst ?_
  | with_reducible refine l_revL ?_
  | with_reducible refine l_sortS ?_
  | with_reducible refine i_u ?_
  | with_reducible refine i_rng1 ?_
  | with_reducible refine i_rng2 ?_
  | with_reducible refine i_enum ?_
  | with_reducible refine x_isNB ?_
  | with_reducible refine x_notNB ?_
  | with_reducible refine x_tuple ?_
  | with_reducible refine x_int1 ?_
  | with_reducible refine x_bool1 ?_
  | with_reducible refine x_str1 ?_
  | with_reducible refine x_max2 ?_
  | with_reducible refine x_sub ?_
  | with_reducible refine x_mod ?_
  | with_reducible refine x_fdiv ?_
  | with_reducible refine x_pow ?_
  | with_reducible refine x_gt ?_
  | with_reducible refine x_ge ?_
  | with_reducible refine x_le ?_
  | with_reducible refine x_neg ?_
  | with_reducible refine s_retN ?_
  | with_reducible refine s_raise ?_
  | with_reducible refine s_brk ?_
  | with_reducible refine s_ct ?_
  | with_reducible refine le_le ?_
  | with_reducible refine le_lt ?_
  | with_reducible refine o_no ?_
  | with_reducible refine tyes ?_
  | with_reducible refine x_l_lst ?_
  | with_reducible refine x_l_lc ?_
  | with_reducible refine x_l_list ?_
  | with_reducible refine x_l_sort ?_
  | with_reducible refine x_l_rev ?_
  | with_reducible refine o_at ?_)
local macro_rules | `(tactic| walk_at "an") => `(tactic| first
  | refine ⟨trivial, ?_⟩
  | refine ⟨_, _, rfl, rfl, ?_⟩
  | refine bt ?_
  | refine bf ?_
  | refine nbt ?_
  | refine nbf ?_
  | refine ot ?_
  | refine of ?_
  | refine not_ ?_
  | refine nof ?_
  | refine ⟨true, _, rfl, ?_⟩
  | refine ⟨false, _, rfl, ?_⟩
  | refine .inl ⟨true, _, rfl, ?_⟩
  | refine .inl ⟨false, _, rfl, ?_⟩
  | refine ct ?_
  | refine cf ?_
  | refine ct' ?_
  | refine cf' ?_
  | (refine ⟨okd_int _, okd_int _, ?_⟩; rw [eqD_I]; try rw [dec_refl])
  | (refine ⟨okd_bl _, okd_bl _, ?_⟩; rw [eqD_B]; try rw [dec_refl]))
local macro_rules | `(tactic| walk_at "go") => `(tactic| repeat (first | walk_at "lp" | walk_at "an"))
theorem cut_take {ds : List Dt} {m : Nat} : cutD ds none (some (m : Nat)) = ds.take m := by
  unfold cutD
  rw [HT.sIx_none, HT.sIx_nat, List.drop_zero, Nat.sub_zero]
  rw [List.take_eq_take_iff]
  omega
theorem cut_drop {ds : List Dt} {m : Nat} : cutD ds (some (m : Nat)) none = ds.drop m := by
  unfold cutD
  rw [HT.sIx_none, HT.sIx_nat]
  by_cases h : m ≤ ds.length
  · rw [Nat.min_eq_left h, List.take_of_length_le (by rw [List.length_drop]; omega)]
  · rw [Nat.min_eq_right (by omega), List.drop_of_length_le (by omega), List.drop_of_length_le (by omega)]; simp
theorem cut_tail {x : Dt} {r : List Dt} : cutD (x :: r) (some 1) none = r := by
  rw [show (some (1 : Int)) = some ((1 : Nat) : Int) from rfl, cut_drop]; rfl
theorem w_is_integer {K : Fg} (k : KF K) (E : XK) : OkD K (tabs K) E (F_is_integer K) 1 0 (t_is_integer K E) := by
  rintro ds P X ⟨d, rfl, hg, p⟩
  refine ⟨rfl, ?_⟩
  unfold t_is_integer
  walk_at "go"
  refine ⟨dok_ty hg, bb (fun h => ?_) fun h => ?_⟩
  · walk_at "go"
    refine ⟨dok_ty hg, _, rfl, ?_⟩
    cases d <;> first | exact p | cases h
  · cases d <;> first | exact p | cases h
theorem btw_int {i a b : Int} : btwB (.int i) a b = (decide (a ≤ i) && decide (i ≤ b)) := rfl
theorem nm_str {s : Str} : isNmB (.str s) = ((decide ((1 : Int) ≤ (s.length : Nat)) && decide (((s.length : Nat) : Int) ≤ 8)) && s.cps.toList.all fun c => decide (c ∈ letters.cps.toList)) := rfl
theorem kind_tup {l : List Dt} {k : Str} {n : Nat} : kindB (.tup l) k n = (decide (((l.length : Nat) : Int) = (n : Nat)) && isS (l.getD 0 .non) k) := rfl
theorem w_is_between {K : Fg} (k : KF K) (E : XK) : OkD K (tabs K) E (F_is_between K) 3 0 (t_is_between K E) := by
  rintro ds P X ⟨d, a, b, rfl, hg, p⟩
  refine ⟨rfl, ?_⟩
  unfold t_is_between sp_is_integer
  walk_at "go"
  refine ⟨d, rfl, hg, bb (fun h => ?_) fun h => ?_⟩
  · cases d <;> first | cases h | skip
    rename_i i
    walk_at "go"
    refine ⟨fun h1 => ?_, fun h1 => ?_⟩
    · walk_at "go"
      refine ⟨_, rfl, ?_⟩
      rw [btw_int, h1] at p
      exact p
    · rw [btw_int, h1] at p
      exact p
  · cases d <;> first | exact p | cases h
theorem w_is_value {K : Fg} (k : KF K) (E : XK) : OkD K (tabs K) E (F_is_value K) 1 0 (t_is_value K E) := by
  rintro ds P X ⟨d, rfl, hg, p⟩
  refine ⟨rfl, ?_⟩
  unfold t_is_value sp_is_between
  walk_at "go"
  exact ⟨d, 0, 2, rfl, hg, p⟩
theorem all_signs {s : Str} {f : Nat → Bool} : (s.cps.toList.map f).all id = s.cps.toList.all f := by
  rw [List.all_map]; rfl
theorem signs_map {s : Str} : signs s = s.cps.toList.map fun c => .str ⟨#[c]⟩ := rfl
theorem w_is_name {K : Fg} (k : KF K) (E : XK) : OkD K (tabs K) E (F_is_name K) 2 1 (t_is_name K E) := by
  rintro ds P X ⟨d, rfl, hg, p⟩
  refine ⟨rfl, ?_⟩
  unfold t_is_name
  show SW K _ E X _ [.val d, .emp] _ _ _ _
  walk_at "go"
  refine ⟨dok_ty hg, bb (fun h => ?_) fun h => ?_⟩
  · cases d <;> first | cases h | skip
    rename_i s
    walk_at "go"
    refine .inr ⟨s, rfl, dok_slen hg, ?_⟩
    walk_at "go"
    refine ⟨fun h1 => ?_, fun h1 => ?_⟩
    · walk_at "go"
      refine ⟨_, rfl, bb (fun h2 => ?_) fun h2 => ?_⟩
      · refine x_allL (l_map (f := fun c : Nat => .str ⟨#[c]⟩) (h := fun c => .bl (decide (c ∈ letters.cps.toList))) rfl ?_)
        walk_at "go"
        refine .inr ⟨s, rfl, s.cps.toList, rfl, by rw [Array.length_toList]; exact dok_slen hg, fun c hc => ?_, _, (List.map_map (g := Dt.bl) (f := fun c => decide (c ∈ letters.cps.toList))).symm, ?_⟩
        · refine p_name (by simp) rfl ?_
          refine x_inS ?_
          walk_at "go"
          rfl
        · rw [all_signs]
          rw [nm_str, h1, h2] at p
          exact p
      · rw [nm_str, h2, Bool.and_false, Bool.false_and] at p
        exact p
    · rw [nm_str, h1, Bool.false_and, Bool.false_and] at p
      exact bf p
  · cases d <;> first | exact p | cases h
theorem w_has_kind {K : Fg} (k : KF K) (E : XK) : OkD K (tabs K) E (F_has_kind K) 3 0 (t_has_kind K E) := by
  rintro ds P X ⟨d, kd, n, rfl, hg, hk, hn, p⟩
  refine ⟨rfl, ?_⟩
  unfold t_has_kind
  show SW K _ E X _ [.val d, .val (.str kd), .val (.int (n : Nat))] _ _ _ _
  walk_at "go"
  refine ⟨dok_ty hg, bb (fun h => ?_) fun h => ?_⟩
  · cases d <;> first | cases h | skip
    rename_i l
    walk_at "go"
    refine bb (fun h1 => ?_) fun h1 => ?_
    · have e1 : l.length = n := by have := of_decide_eq_true h1; omega
      have h0 : l[0]? = some (l.getD 0 .non) := by
        rw [List.getD_eq_getElem?_getD, List.getElem?_eq_getElem (by omega)]; rfl
      have g0 : Gd (l.getD 0 .non) := dok_parts (b := false) hg (List.mem_of_getElem? h0)
      walk_at "go"
      refine ⟨false, l, 0, 0, _, rfl, rfl, ixN_of (k := 0) (by omega), h0, dok_ty g0, bb (fun h2 => ?_) fun h2 => ?_⟩
      · walk_at "go"
        refine ⟨false, l, 0, 0, _, rfl, rfl, ixN_of (k := 0) (by omega), h0, ?_⟩
        walk_at "go"
        refine ⟨g0.1, okd_str hk, ?_⟩
        rw [eqD_str]
        rw [kind_tup, h1, Bool.true_and] at p
        exact p
      · rw [kind_tup] at p
        cases hx : l.getD 0 .non <;> rw [hx] at h2 p <;> first | (cases h2; done) | (simpa [isS] using p)
    · rw [kind_tup, h1, Bool.false_and] at p
      exact p
  · cases d <;> first | exact p | cases h
/-! ### the form of a term, by its word -/
theorem form_str {a : Int} {s : Str} {r : List Dt} : formB a (.tup (.str s :: r)) =
    if s = "tick" then decide (r.length = 0)
    else if s = "arg" then decide (r.length = 1) && btwB (r.getD 0 .non) 0 (a - 1)
    else if s = "cell" then decide (r.length = 1) && isNmB (r.getD 0 .non)
    else if s = "call" then decide (r.length = 2) && (isNmB (r.getD 0 .non) && isTupLe (r.getD 1 .non) 2)
    else if s = "plus" ∨ s = "less" ∨ s = "same" then decide (r.length = 2)
    else if s = "if" then decide (r.length = 3) else false := by
  have kd : ∀ (k : Str) (n : Nat), kindB (.tup (.str s :: r)) k (n + 1) = (decide (r.length = n) && decide (s = k)) := fun k n => by
    rw [kind_tup]
    have : decide (((((Dt.str s :: r).length : Nat)) : Int) = ((n + 1 : Nat) : Int)) = decide (r.length = n) := decide_eq_decide.mpr (by rw [List.length_cons]; omega)
    rw [this]; rfl
  unfold formB
  rw [show btwB (.tup (.str s :: r)) 0 2 = false from rfl, kd "tick" 0, kd "arg" 1, kd "cell" 1, kd "call" 2, kd "plus" 2, kd "less" 2, kd "same" 2, kd "if" 3,
    show prt (.tup (.str s :: r)) 1 = r.getD 0 .non from rfl, show prt (.tup (.str s :: r)) 2 = r.getD 1 .non from rfl]
  by_cases h1 : s = "tick"
  · subst h1; simp (decide := true)
  by_cases h2 : s = "arg"
  · subst h2; simp (decide := true)
  by_cases h3 : s = "cell"
  · subst h3; simp (decide := true)
  by_cases h4 : s = "call"
  · subst h4; simp (decide := true)
  by_cases h5 : s = "plus"
  · subst h5; simp (decide := true)
  by_cases h6 : s = "less"
  · subst h6; simp (decide := true)
  by_cases h7 : s = "same"
  · subst h7; simp (decide := true)
  by_cases h8 : s = "if"
  · subst h8; simp (decide := true)
  simp [h1, h2, h3, h4, h5, h6, h7, h8]
theorem form_odd {a : Int} {l : List Dt} (h : ∀ s r, l ≠ .str s :: r) : formB a (.tup l) = false := by
  have kd : ∀ (k : Str) (n : Nat), kindB (.tup l) k (n + 1) = false := fun k n => by
    rw [kind_tup]
    cases l with
    | nil => simp [isS]
    | cons x r => cases x <;> first | exact absurd rfl (h _ _) | simp [isS]
  unfold formB
  rw [show btwB (.tup l) 0 2 = false from rfl, kd "tick" 0, kd "arg" 1, kd "cell" 1, kd "call" 2, kd "plus" 2, kd "less" 2, kd "same" 2, kd "if" 3]
  rfl
theorem inn_str {s : Str} {r : List Dt} : innD (.tup (.str s :: r)) = if s = "call" then (match r.getD 1 .non with | .tup as => as | _ => []) else if s = "plus" ∨ s = "less" ∨ s = "same" ∨ s = "if" then r else [] := by
  unfold innD
  simp [isS, or_assoc] <;> rfl
/-- a term that is a tuple: its word, and what is behind -/
theorem form_tup {a : Int} {l : List Dt} (h : formB a (.tup l) = true) : ∃ s r, l = .str s :: r ∧ (s = "call" → ∃ x as, r = [x, .tup as] ∧ as.length ≤ 2 ∧ isNmB x = true) ∧ r.length ≤ 3 := by
  by_cases hs : ∃ s r, l = .str s :: r
  · obtain ⟨s, r, rfl⟩ := hs
    rw [form_str] at h
    refine ⟨s, r, rfl, fun e => ?_, ?_⟩
    · subst e
      simp (decide := true) at h
      obtain ⟨h1, h2, h3⟩ := h
      match r, h1 with
      | [x, y], _ =>
        cases y with
        | tup as => exact ⟨x, as, rfl, by simpa [isTupLe] using h3, by simpa using h2⟩
        | _ => simp [isTupLe] at h3
    · split at h <;> first | (have := of_decide_eq_true h; omega) | skip
      split at h <;> first | (have := of_decide_eq_true (ba2 h).1; omega) | skip
      split at h <;> first | (have := of_decide_eq_true (ba2 h).1; omega) | skip
      split at h <;> first | (have := of_decide_eq_true (ba2 h).1; omega) | skip
      split at h <;> first | (have := of_decide_eq_true h; omega) | skip
      split at h <;> first | (have := of_decide_eq_true h; omega) | cases h
  · rw [form_odd fun s r e => hs ⟨s, r, e⟩] at h
    cases h
theorem form_mem {a : Int} {d x : Dt} {n : Nat} (hg : dOk n d) (hx : x ∈ innD d) : dOk (n - 1) x := by
  cases d with
  | tup l =>
    cases l with
    | nil => simp [innD, isS] at hx
    | cons y r =>
      cases y with
      | str s =>
        rw [inn_str] at hx
        split at hx
        · cases hr : r.getD 1 .non with
          | tup as =>
            rw [hr] at hx
            have hm : (.tup as : Dt) ∈ r := by
              rw [List.getD_eq_getElem?_getD] at hr
              cases h1 : r[1]? with
              | none => rw [h1] at hr; cases hr
              | some z => rw [h1] at hr; cases hr; exact List.mem_of_getElem? h1
            have h1 := dok_partN (b := false) hg (List.mem_cons_of_mem _ hm)
            exact dok_mono (dok_partN (b := false) h1 hx) (by omega)
          | _ => rw [hr] at hx; cases hx
        · split at hx
          · exact dok_partN (b := false) hg (List.mem_cons_of_mem _ hx)
          · cases hx
      | _ => simp [innD, isS] at hx
  | _ => cases hx
def prs : List Str := ["plus", "less", "same"]
theorem okd_pairs : Okd (.tup (prs.map .str)) := (dok_tup (n := 1) (S := prs.map .str) (fun d hd => by
  obtain ⟨s, hs, rfl⟩ := List.mem_map.mp hd
  have : strOkB s = true := by
    have h : ∀ s ∈ prs, strOkB s = true := by decide +kernel
    exact h s hs
  exact dok_str this) (by decide) (by decide)).1
theorem any_strs {l : List Str} {x : Dt} : ((l.map Dt.str).any fun z => eqD z x) = l.any fun s => isS x s := by
  rw [List.any_map]
  show (l.any fun z => eqD (.str z) x) = _
  congr 1
  funext z
  cases x with
  | str t => rw [eqD_S]; exact decide_eq_decide.mpr eq_comm
  | _ => simp only [eqD, toPy, isS, PyData.eqv]
theorem w_inner_terms {K : Fg} (k : KF K) (E : XK) : OkD K (tabs K) E (F_inner_terms K) 1 0 (t_inner_terms K E) := by
  rintro ds P X ⟨d, a, rfl, hg, hf, p⟩
  refine ⟨rfl, ?_⟩
  unfold t_inner_terms
  walk_at "go"
  refine ⟨dok_ty hg, ?_⟩
  cases d with
  | tup l =>
    obtain ⟨s, r, rfl, hc, hl⟩ := form_tup hf
    have g0 : Gd (.str s) := dok_parts (b := false) hg List.mem_cons_self
    walk_at "go"
    refine ⟨false, _, 0, 0, .str s, rfl, rfl, ixN_of (k := 0) (by simp), rfl, ?_⟩
    walk_at "go"
    refine ⟨g0.1, okd_str (by decide +kernel), ?_⟩
    rw [eqD_S]
    rw [inn_str] at p
    refine bb (fun h => ?_) fun h => ?_
    · have h := of_decide_eq_true h
      obtain ⟨x, as, rfl, h2, _⟩ := hc h
      walk_at "go"
      refine ⟨false, _, 2, 2, .tup as, rfl, rfl, rfl, rfl, ?_⟩
      rw [if_pos h] at p
      exact p
    · have h := of_decide_eq_false h
      rw [if_neg h] at p
      walk_at "go"
      refine x_in ?_
      walk_at "go"
      refine ⟨false, _, 0, 0, .str s, rfl, rfl, ixN_of (k := 0) (by simp), rfl, ?_⟩
      walk_at "go"
      refine x_con k.c_PAIRS ?_
      refine ⟨prs.map .str, .inl rfl, g0.1, okd_pairs, ?_⟩
      rw [any_strs]
      refine ob' (fun h1 => ?_) fun h1 => ?_
      · walk_at "go"
        refine ⟨false, _, 0, 0, .str s, rfl, rfl, ixN_of (k := 0) (by simp), rfl, ?_⟩
        walk_at "go"
        refine ⟨g0.1, okd_str (by decide +kernel), ?_⟩
        rw [eqD_S]
        have h2 : ¬ (s = "plus" ∨ s = "less" ∨ s = "same") := by
          have : ((decide (s = "plus") || (decide (s = "less") || (decide (s = "same") || false)))) = false := h1
          simpa using this
        refine bb (fun h3 => ?_) fun h3 => ?_
        · have h3 := of_decide_eq_true h3
          rw [if_pos (by simp [h3])] at p
          refine x_slT ?_
          walk_at "go"
          refine ⟨_, rfl, ?_⟩
          walk_at "go"
          refine ⟨_, rfl, ?_⟩
          rw [cut_tail]
          exact p
        · have h3 := of_decide_eq_false h3
          rw [if_neg (by simpa [h3] using h2)] at p
          walk_at "go"
          exact ⟨small (by decide), p⟩
      · have h2 : (s = "plus" ∨ s = "less" ∨ s = "same") := by
          have : ((decide (s = "plus") || (decide (s = "less") || (decide (s = "same") || false)))) = true := h1
          simpa using this
        rw [if_pos (by rcases h2 with h | h | h <;> simp [h])] at p
        walk_at "go"
        refine x_slT ?_
        walk_at "go"
        refine ⟨_, rfl, ?_⟩
        walk_at "go"
        refine ⟨_, rfl, ?_⟩
        rw [cut_tail]
        exact p
  | _ =>
    walk_at "go"
    exact ⟨small (by decide), p⟩
theorem kind_at {d : Dt} {kd : Str} {n : Nat} (h : kindB d kd n = true) : ∃ l, d = .tup l ∧ l.length = n := by
  cases d with
  | tup l =>
    rw [kind_tup] at h
    have := of_decide_eq_true (ba2 h).1
    exact ⟨l, rfl, by omega⟩
  | _ => cases h
theorem w_has_form {K : Fg} (k : KF K) (E : XK) : OkD K (tabs K) E (F_has_form K) 3 1 (t_has_form K E) := by
  rintro ds P X ⟨d, a, rfl, hg, p⟩
  refine ⟨rfl, ?_⟩
  unfold t_has_form sp_is_value sp_has_kind sp_is_between sp_is_name
  show SW K _ E X _ [.val d, .val (.int a), .emp] _ _ _ _
  have sk : ∀ s ∈ (["tick", "arg", "cell", "call", "plus", "less", "same", "if"] : List Str), strOkB s = true := by decide +kernel
  unfold formB at p
  walk_at "go"
  refine ⟨d, rfl, hg, ob' (fun h1 => ?_) fun h1 => ?_⟩
  · walk_at "go"
    refine ⟨d, "tick", 1, rfl, hg, sk _ (by decide), by decide, bb (fun h2 => ?_) fun h2 => ?_⟩
    · walk_at "go"
      rw [h1, h2] at p
      exact p
    · walk_at "go"
      rw [h1, h2] at p
      refine ⟨d, "arg", 2, rfl, hg, sk _ (by decide), by decide, bb (fun h3 => ?_) fun h3 => ?_⟩
      · obtain ⟨l, rfl, hl⟩ := kind_at h3
        match l, hl with
        | [x, y], _ =>
        walk_at "go"
        refine ⟨false, _, 1, 1, y, rfl, rfl, rfl, rfl, ?_⟩
        walk_at "go"
        refine ⟨y, 0, a - 1, rfl, dok_parts (b := false) hg (by simp), ?_⟩
        rw [h3] at p
        exact p
      · walk_at "go"
        rw [h3] at p
        refine ⟨d, "cell", 2, rfl, hg, sk _ (by decide), by decide, bb (fun h4 => ?_) fun h4 => ?_⟩
        · obtain ⟨l, rfl, hl⟩ := kind_at h4
          match l, hl with
          | [x, y], _ =>
          walk_at "go"
          refine ⟨false, _, 1, 1, y, rfl, rfl, rfl, rfl, ?_⟩
          walk_at "go"
          refine ⟨y, rfl, dok_parts (b := false) hg (by simp), ?_⟩
          rw [h4] at p
          exact p
        · walk_at "go"
          rw [h4] at p
          refine ⟨d, "call", 3, rfl, hg, sk _ (by decide), by decide, bb (fun h5 => ?_) fun h5 => ?_⟩
          · obtain ⟨l, rfl, hl⟩ := kind_at h5
            match l, hl with
            | [x, y, z], _ =>
            rw [h5] at p
            have gz : Gd z := dok_parts (b := false) hg (by simp)
            have p : P (.val (.bl (isNmB y && isTupLe z 2))) := p
            walk_at "go"
            refine ⟨false, _, 1, 1, y, rfl, rfl, rfl, rfl, ?_⟩
            walk_at "go"
            refine ⟨y, rfl, dok_parts (b := false) hg (by simp), bb (fun h6 => ?_) fun h6 => ?_⟩
            · rw [h6] at p
              walk_at "go"
              refine ⟨false, _, 2, 2, z, rfl, rfl, rfl, rfl, dok_ty gz, bb (fun h7 => ?_) fun h7 => ?_⟩
              · obtain ⟨as, rfl⟩ : ∃ as, z = .tup as := by cases z <;> first | exact ⟨_, rfl⟩ | cases h7
                walk_at "go"
                refine ⟨false, _, 2, 2, .tup as, rfl, rfl, rfl, rfl, ?_⟩
                refine .inl ⟨false, as, rfl, ?_⟩
                walk_at "go"
                have e : decide (((as.length : Nat) : Int) ≤ 2) = decide (as.length ≤ 2) := decide_eq_decide.mpr (by omega)
                rw [e]
                exact p
              · cases z <;> first | (cases h7; done) | exact p
            · rw [h6] at p
              exact p
          · rw [h5] at p
            walk_at "go"
            refine x_any (EX.eb (x_lst (l_map (f := Dt.str) (h := fun s => .bl (kindB d s 3)) rfl ?_) fun ds (q : ∃ bs : List Bool, ds = bs.map Dt.bl ∧ _) => by obtain ⟨bs, e, q⟩ := q; exact ⟨bs, by rw [e], q⟩))
            walk_at "go"
            refine x_con k.c_PAIRS ?_
            refine .inl ⟨false, _, rfl, prs, rfl, small (by decide), fun s hs => ?_, [kindB d "plus" 3, kindB d "less" 3, kindB d "same" 3], rfl, ?_⟩
            · refine p_name (by simp) rfl ?_
              walk_at "go"
              refine ⟨d, s, 3, rfl, hg, ?_, by decide, rfl⟩
              have h : ∀ s ∈ prs, strOkB s = true := by decide +kernel
              exact h s hs
            · have e : ([kindB d "plus" 3, kindB d "less" 3, kindB d "same" 3].any id) = (kindB d "plus" 3 || kindB d "less" 3 || kindB d "same" 3) := by
                simp [Bool.or_assoc]
              rw [e]
              have p : P (.val (.bl ((kindB d "plus" 3 || kindB d "less" 3 || kindB d "same" 3) || kindB d "if" 4))) := p
              refine ob' (fun h6 => ?_) fun h6 => ?_
              · rw [h6] at p
                walk_at "go"
                exact ⟨d, "if", 4, rfl, hg, sk _ (by decide), by decide, p⟩
              · rw [h6] at p
                exact p
  · rw [h1] at p
    walk_at "go"
    exact p
end Lp.Q

set_option Elab.async false
set_option linter.all false
set_option maxRecDepth 100000
set_option maxHeartbeats 4000000
/-! k04W2: terms layer by layer. Own work. -/
namespace Lp.Q
open PySem PySem.Spec PyProof.Rows L2 LamX Lp
local macro_rules | `(tactic| walk_at "lp") => `(tactic| first
  | with_reducible refine s_seq ?_
  | with_reducible refine s_if ?_
  | with_reducible refine s_ret ?_
  | with_reducible refine s_next ?_
  | with_reducible refine s_asg ?_
  | with_reducible refine t_test ?_
  | with_reducible refine t_val ?_
  | with_reducible refine t_and ?_
  | with_reducible refine t_or ?_
  | with_reducible refine t_not ?_
  | ((with_reducible apply x_var); (focus rfl))
  | with_reducible refine x_non ?_
  | with_reducible refine x_bl ?_
  | with_reducible refine x_int ?_
  | with_reducible refine x_str ?_
  | with_reducible refine x_and ?_
  | with_reducible refine x_or ?_
  | with_reducible refine x_not ?_
  | with_reducible refine x_if ?_
  | with_reducible refine x_isInt ?_
  | with_reducible refine x_isBool ?_
  | with_reducible refine x_isStr ?_
  | with_reducible refine x_isTup ?_
  | with_reducible refine x_isLst ?_
  | with_reducible refine x_isDct ?_
  | ((with_reducible refine x_isObj ?_ ?_); (focus (simp [Cs])))
  | with_reducible refine x_isi2 ?_
  | with_reducible refine x_len ?_
  | with_reducible refine x_eq ?_
  | with_reducible refine x_ne ?_
  | with_reducible refine x_ix ?_
  | with_reducible refine x_fld ?_
  | with_reducible refine x_tup ?_
  | with_reducible refine x_call ?_
  | with_reducible refine x_make ?_
  | with_reducible refine x_meth ?_
  | with_reducible refine x_makeN ?_
  | with_reducible refine x_callP ?_
  | with_reducible refine x_makeP ?_
  | with_reducible refine x_makeNP ?_
  | with_reducible refine x_sum ?_
  | with_reducible refine i_rng3 ?_
  | with_reducible refine x_methP ?_
  | ((with_reducible apply x_callJ); (focus rfl))
  | with_reducible refine a_cons ?_
  | with_reducible refine a_nil ?_
  | ((with_reducible apply b_own); (focus rfl))
  | ((with_reducible apply b_var); (focus rfl))
  | with_reducible refine EX.eb ?_
  | with_reducible refine l_list ?_
  | with_reducible refine l_lst ?_
  | with_reducible refine l_revL ?_
  | with_reducible refine l_sortS ?_
  | with_reducible refine i_u ?_
  | with_reducible refine i_rng1 ?_
  | with_reducible refine i_rng2 ?_
  | with_reducible refine i_enum ?_
  | with_reducible refine x_isNB ?_
  | with_reducible refine x_notNB ?_
  | with_reducible refine x_tuple ?_
  | with_reducible refine x_int1 ?_
  | with_reducible refine x_bool1 ?_
  | with_reducible refine x_str1 ?_
  | with_reducible refine x_max2 ?_
  | with_reducible refine x_sub ?_
  | with_reducible refine x_mod ?_
  | with_reducible refine x_fdiv ?_
  | with_reducible refine x_pow ?_
  | with_reducible refine x_gt ?_
  | with_reducible refine x_ge ?_
  | with_reducible refine x_le ?_
  | with_reducible refine x_neg ?_
  | with_reducible refine s_retN ?_
  | with_reducible refine s_raise ?_
  | with_reducible refine s_brk ?_
  | with_reducible refine s_ct ?_
  | with_reducible refine le_le ?_
  | with_reducible refine le_lt ?_
  | with_reducible refine o_no ?_
  | with_reducible refine tyes ?_
  | with_reducible refine x_l_lst ?_
  | with_reducible refine x_l_lc ?_
  | with_reducible refine x_l_list ?_
  | with_reducible refine x_l_sort ?_
  | with_reducible refine x_l_rev ?_
  | with_reducible refine o_at ?_)
local macro_rules | `(tactic| walk_at "an") => `(tactic| first
  | refine ⟨trivial, ?_⟩
  | refine ⟨_, _, rfl, rfl, ?_⟩
  | refine bt ?_
  | refine bf ?_
  | refine nbt ?_
  | refine nbf ?_
  | refine ot ?_
  | refine of ?_
  | refine not_ ?_
  | refine nof ?_
  | refine ⟨true, _, rfl, ?_⟩
  | refine ⟨false, _, rfl, ?_⟩
  | refine .inl ⟨true, _, rfl, ?_⟩
  | refine .inl ⟨false, _, rfl, ?_⟩
  | refine ct ?_
  | refine cf ?_
  | refine ct' ?_
  | refine cf' ?_
  | (refine ⟨okd_int _, okd_int _, ?_⟩; rw [eqD_I]; try rw [dec_refl])
  | (refine ⟨okd_bl _, okd_bl _, ?_⟩; rw [eqD_B]; try rw [dec_refl]))
local macro_rules | `(tactic| walk_at "go") => `(tactic| repeat (first | walk_at "lp" | walk_at "an"))
theorem eqD_nil {l : List Dt} : eqD (.lst l) (.lst []) = decide (l = []) := by
  cases l <;> simp [eqD, toPy, toPyL, PyData.eqv, PyData.eqvAll]
theorem eqD_nilT {l : List Dt} : eqD (.tup l) (.tup []) = decide (l = []) := by
  cases l <;> simp [eqD, toPy, toPyL, PyData.eqv, PyData.eqvAll]
theorem inn_len {a : Int} {d : Dt} (h : formB a d = true) : (innD d).length ≤ 3 := by
  cases d with
  | tup l =>
    obtain ⟨s, r, rfl, hc, hl⟩ := form_tup h
    rw [inn_str]
    split
    · rename_i e
      obtain ⟨x, as, rfl, h2, _⟩ := hc e
      show as.length ≤ 3
      omega
    · split
      · exact hl
      · exact Nat.zero_le _
  | _ => exact Nat.zero_le _
theorem zip_fst {l : List Dt} : ∀ {n : Nat}, (l.zipIdx n).map Prod.fst = l := by
  induction l with
  | nil => intro n; rfl
  | cons x l ih => intro n; rw [List.zipIdx_cons, List.map_cons, ih]
theorem zip_map {l : List Dt} {f : Dt → List Dt} : (l.zipIdx.map fun p => f p.1).flatten = l.flatMap f := by
  rw [List.flatMap_def]
  congr 1
  rw [show (fun p : Dt × Nat => f p.1) = f ∘ Prod.fst from rfl, ← List.map_map, zip_fst]
theorem flat_len {a : Int} : ∀ {l : List Dt}, (∀ x ∈ l, formB a x = true) → (l.flatMap innD).length ≤ 3 * l.length
  | [], _ => by simp
  | x :: l, h => by
    rw [List.flatMap_cons, List.length_append, List.length_cons]
    have h1 := inn_len (h x List.mem_cons_self)
    have h2 := flat_len (l := l) fun y hy => h y (List.mem_cons_of_mem _ hy)
    omega
theorem bfs_step {a : Int} {n parts : Nat} {l : List Dt} : bfs a (n + 1) l parts = if decide (30 < parts + l.length) || !(l.all (formB a)) then false else
      if l.flatMap innD = [] then true else bfs a n (l.flatMap innD) (parts + l.length) := rfl
theorem w_is_term {K : Fg} (k : KF K) (E : XK) : OkD K (tabs K) E (F_is_term K) 7 5 (t_is_term K E) := by
  rintro ds P X ⟨d, a, rfl, hg, p⟩
  refine ⟨rfl, ?_⟩
  unfold t_is_term sp_has_form sp_inner_terms
  show SW K _ E X _ [.val d, .val (.int a), .emp, .emp, .emp, .emp, .emp] _ _ _ _
  walk_at "lp"
  refine s_par ?_
  walk_at "go"
  refine ⟨small (by show 1 ≤ 100000; decide), ?_⟩
  walk_at "go"
  refine ⟨_, _, rfl, ?_⟩
  walk_at "go"
  refine s_for ?_
  walk_at "go"
  refine ⟨_, rfl, by decide, by decide, fun i Γ' => ∃ (l : List Dt) (parts : Nat) (e : Ent), Γ' = [.val d, .val (.int a), .val (.lst l), .val (.int (parts : Nat)), e, .emp, .emp] ∧ noOwn Γ' 4 = true ∧ (∀ x ∈ l, Gd x) ∧ l.length ≤ 90 ∧ termB a d = bfs a (8 - i) l parts, [4], ⟨[d], 0, .emp, rfl, rfl, fun x hx => by rw [List.mem_singleton.mp hx]; exact hg, (show 1 ≤ 90 by decide), rfl⟩, fun i x Γ' hd iv => ?_, fun Γ' iv => ?_⟩
  · obtain ⟨l, parts, e, rfl, n4, hl, hlen, ht⟩ := iv
    obtain ⟨hi, rfl⟩ := rgD_get hd
    have hi : i < 8 := hi
    refine g_p (p_name (by simp) n4 ?_)
    rw [show 8 - i = (8 - (i + 1)) + 1 by omega, bfs_step] at ht
    walk_at "go"
    refine s_augI rfl ?_
    walk_at "go"
    refine ⟨_, rfl, ?_⟩
    show SW K _ E X _ [.val d, .val (.int a), .val (.lst l), .val (.int ((parts + l.length : Nat))), .val (.int (0 + (i : Nat))), .emp, .emp] _ _ _ _
    have e30 : decide ((30 : Int) < ((parts + l.length : Nat))) = decide (30 < parts + l.length) := decide_eq_decide.mpr (by omega)
    walk_at "go"
    rw [e30]
    refine ob' (fun h1 => ?_) fun h1 => ?_
    · rw [h1, Bool.false_or] at ht
      walk_at "go"
      refine x_allL (l_map (f := id) (h := fun x => .bl (formB a x)) rfl ?_)
      walk_at "go"
      refine ⟨l, (List.map_id _).symm, small (by omega), fun x hx => ?_, l.map (formB a), (List.map_map (g := Dt.bl) (f := formB a)).symm, ?_⟩
      · refine p_name (by simp) rfl ?_
        walk_at "go"
        exact ⟨x, a, rfl, hl x hx, rfl⟩
      · rw [show (l.map (formB a)).all id = l.all (formB a) from List.all_map]
        refine nbb (fun h2 => ?_) fun h2 => ?_
        · rw [h2] at ht
          walk_at "go"
          rw [ht] at p
          exact p
        · rw [h2] at ht
          have hf : ∀ x ∈ l, formB a x = true := List.all_eq_true.mp h2
          walk_at "go"
          have hl3 := flat_len hf
          have h30 : ¬ 30 < parts + l.length := of_decide_eq_false h1
          refine x_l (l_lc2 rfl rfl ?_)
          walk_at "go"
          refine ⟨fun _ x => innD x, ?_, fun j x hx => ?_, ?_⟩
          · rw [zip_map]; exact small (by omega)
          · have hm := List.mem_of_getElem? hx
            refine p_name (by simp) rfl ⟨rfl, ?_⟩
            walk_at "go"
            refine ⟨x, a, rfl, hl x hm, hf x hm, .inl ⟨false, innD x, rfl, rfl, fun m e he => ?_⟩⟩
            refine p_name (by simp) rfl ?_
            walk_at "go"
            exact he
          · rw [zip_map]
            have gl : ∀ x ∈ l.flatMap innD, Gd x := fun x hx => by
              obtain ⟨y, hy, hx⟩ := List.mem_flatMap.mp hx
              exact dok_mono (form_mem (a := a) (hl y hy) hx) (by decide)
            have okl : Okd (.lst (l.flatMap innD)) := (dok_lst gl (by omega) (by decide)).1
            walk_at "go"
            refine ⟨small (by decide), okl, (dok_lst (n := 1) (S := []) (fun _ z => nomatch z) (by decide) (by decide)).1, ?_⟩
            rw [eqD_nil]
            refine bb (fun h3 => ?_) fun h3 => ?_
            · rw [if_neg (by simp), if_pos (of_decide_eq_true h3)] at ht
              walk_at "go"
              rw [ht] at p
              exact p
            · rw [if_neg (by simp), if_neg (of_decide_eq_false h3)] at ht
              walk_at "go"
              exact ⟨l.flatMap innD, parts + l.length, _, rfl, rfl, gl, by omega, ht⟩
    · rw [h1, Bool.true_or] at ht
      walk_at "go"
      rw [ht] at p
      exact p
  · obtain ⟨l, parts, e, rfl, n4, hl, hlen, ht⟩ := iv
    walk_at "go"
    rw [ht] at p
    exact p
end Lp.Q

set_option Elab.async false
set_option linter.all false
set_option maxRecDepth 100000
set_option maxHeartbeats 4000000
/-! k04W3: labels, writes. Own work. -/
namespace Lp.Q
open PySem PySem.Spec PyProof.Rows L2 LamX Lp
local macro_rules | `(tactic| walk_at "lp") => `(tactic| first
  | with_reducible refine s_seq ?_
  | with_reducible refine s_if ?_
  | with_reducible refine s_ret ?_
  | with_reducible refine s_next ?_
  | with_reducible refine s_asg ?_
  | with_reducible refine t_test ?_
  | with_reducible refine t_val ?_
  | with_reducible refine t_and ?_
  | with_reducible refine t_or ?_
  | with_reducible refine t_not ?_
  | ((with_reducible apply x_var); (focus rfl))
  | with_reducible refine x_non ?_
  | with_reducible refine x_bl ?_
  | with_reducible refine x_int ?_
  | with_reducible refine x_str ?_
  | with_reducible refine x_and ?_
  | with_reducible refine x_or ?_
  | with_reducible refine x_not ?_
  | with_reducible refine x_if ?_
  | with_reducible refine x_isInt ?_
  | with_reducible refine x_isBool ?_
  | with_reducible refine x_isStr ?_
  | with_reducible refine x_isTup ?_
  | with_reducible refine x_isLst ?_
  | with_reducible refine x_isDct ?_
  | ((with_reducible refine x_isObj ?_ ?_); (focus (simp [Cs])))
  | with_reducible refine x_isi2 ?_
  | with_reducible refine x_len ?_
  | with_reducible refine x_eq ?_
  | with_reducible refine x_ne ?_
  | with_reducible refine x_ix ?_
  | with_reducible refine x_fld ?_
  | with_reducible refine x_tup ?_
  | with_reducible refine x_call ?_
  | with_reducible refine x_make ?_
  | with_reducible refine x_meth ?_
  | with_reducible refine x_makeN ?_
  | with_reducible refine x_callP ?_
  | with_reducible refine x_makeP ?_
  | with_reducible refine x_makeNP ?_
  | with_reducible refine x_sum ?_
  | with_reducible refine i_rng3 ?_
  | with_reducible refine x_methP ?_
  | ((with_reducible apply x_callJ); (focus rfl))
  | with_reducible refine a_cons ?_
  | with_reducible refine a_nil ?_
  | ((with_reducible apply b_own); (focus rfl))
  | ((with_reducible apply b_var); (focus rfl))
  | with_reducible refine EX.eb ?_
  | with_reducible refine l_list ?_
  | with_reducible refine l_lst ?_
  | with_reducible refine l_revL ?_
  | with_reducible refine l_sortS ?_
  | with_reducible refine i_u ?_
  | with_reducible refine i_rng1 ?_
  | with_reducible refine i_rng2 ?_
  | with_reducible refine i_enum ?_
  | with_reducible refine x_isNB ?_
  | with_reducible refine x_notNB ?_
  | with_reducible refine x_tuple ?_
  | with_reducible refine x_int1 ?_
  | with_reducible refine x_bool1 ?_
  | with_reducible refine x_str1 ?_
  | with_reducible refine x_max2 ?_
  | with_reducible refine x_sub ?_
  | with_reducible refine x_mod ?_
  | with_reducible refine x_fdiv ?_
  | with_reducible refine x_pow ?_
  | with_reducible refine x_gt ?_
  | with_reducible refine x_ge ?_
  | with_reducible refine x_le ?_
  | with_reducible refine x_neg ?_
  | with_reducible refine s_retN ?_
  | with_reducible refine s_raise ?_
  | with_reducible refine s_brk ?_
  | with_reducible refine s_ct ?_
  | with_reducible refine le_le ?_
  | with_reducible refine le_lt ?_
  | with_reducible refine o_no ?_
  | with_reducible refine tyes ?_
  | with_reducible refine x_l_lst ?_
  | with_reducible refine x_l_lc ?_
  | with_reducible refine x_l_list ?_
  | with_reducible refine x_l_sort ?_
  | with_reducible refine x_l_rev ?_
  | with_reducible refine o_at ?_)
local macro_rules | `(tactic| walk_at "an") => `(tactic| first
  | refine ⟨trivial, ?_⟩
  | refine ⟨_, _, rfl, rfl, ?_⟩
  | refine bt ?_
  | refine bf ?_
  | refine nbt ?_
  | refine nbf ?_
  | refine ot ?_
  | refine of ?_
  | refine not_ ?_
  | refine nof ?_
  | refine ⟨true, _, rfl, ?_⟩
  | refine ⟨false, _, rfl, ?_⟩
  | refine .inl ⟨true, _, rfl, ?_⟩
  | refine .inl ⟨false, _, rfl, ?_⟩
  | refine ct ?_
  | refine cf ?_
  | refine ct' ?_
  | refine cf' ?_
  | (refine ⟨okd_int _, okd_int _, ?_⟩; rw [eqD_I]; try rw [dec_refl])
  | (refine ⟨okd_bl _, okd_bl _, ?_⟩; rw [eqD_B]; try rw [dec_refl]))
local macro_rules | `(tactic| walk_at "go") => `(tactic| repeat (first | walk_at "lp" | walk_at "an"))
theorem lab_ty {K : Fg} {r : Nat} : TyK (Cs K) (labD K r) := by simp [TyK, labD, Cs]
theorem lb_in {r : Nat} (h : r < 4) : lb r ∈ lbs := by
  match r, h with
  | 0, _ => decide
  | 1, _ => decide
  | 2, _ => decide
  | 3, _ => decide
theorem lb_ok {r : Nat} (h : r < 4) : strOkB (lb r) = true := by
  match r, h with
  | 0, _ => decide +kernel
  | 1, _ => decide +kernel
  | 2, _ => decide +kernel
  | 3, _ => decide +kernel
theorem lb_inj {i j : Nat} (hi : i < 4) (hj : j < 4) (h : lb i = lb j) : i = j := by
  match i, j, hi, hj with
  | 0, 0, _, _ => rfl
  | 1, 1, _, _ => rfl
  | 2, 2, _, _ => rfl
  | 3, 3, _, _ => rfl
  | 0, 1, _, _ => exact absurd h (by decide)
  | 0, 2, _, _ => exact absurd h (by decide)
  | 0, 3, _, _ => exact absurd h (by decide)
  | 1, 0, _, _ => exact absurd h (by decide)
  | 1, 2, _, _ => exact absurd h (by decide)
  | 1, 3, _, _ => exact absurd h (by decide)
  | 2, 0, _, _ => exact absurd h (by decide)
  | 2, 1, _, _ => exact absurd h (by decide)
  | 2, 3, _, _ => exact absurd h (by decide)
  | 3, 0, _, _ => exact absurd h (by decide)
  | 3, 1, _, _ => exact absurd h (by decide)
  | 3, 2, _, _ => exact absurd h (by decide)
theorem lbs_get {r : Nat} (h : r < 4) : lbs[r]? = some (lb r) := by
  match r, h with
  | 0, _ => rfl
  | 1, _ => rfl
  | 2, _ => rfl
  | 3, _ => rfl
theorem lbs_first {r : Nat} (h : r < 4) : ∀ m, m < r → lbs[m]? ≠ some (lb r) := fun m hm e => by
  rw [lbs_get (by omega)] at e
  have := lb_inj (by omega) h (Option.some.inj e)
  omega
theorem okd_lbs : Okd (.tup (lbs.map .str)) := (dok_tup (n := 1) (S := lbs.map .str) (fun d hd => by
  obtain ⟨s, hs, rfl⟩ := List.mem_map.mp hd
  have : strOkB s = true := by
    have h : ∀ s ∈ lbs, strOkB s = true := by decide +kernel
    exact h s hs
  exact dok_str this) (by decide) (by decide)).1
theorem any_lbs {s : Str} : ((lbs.map Dt.str).any fun z => eqD z (.str s)) = decide (s ∈ lbs) := by
  rw [List.any_map]
  show (lbs.any fun z => eqD (.str z) (.str s)) = _
  rw [show (fun z => eqD (.str z) (.str s)) = fun z => decide (z = s) from funext fun z => eqD_S]
  apply Bool.eq_iff_iff.mpr
  rw [List.any_eq_true, decide_eq_true_iff]
  constructor
  · rintro ⟨z, h1, h2⟩
    rw [← of_decide_eq_true h2]; exact h1
  · intro h; exact ⟨s, h, decide_eq_true rfl⟩
theorem kL {K : Fg} (k : KF K) : TupS K (He.ga K "LABELS") lbs := k.c_LABELS
theorem tObj_lab {K : Fg} {r : Nat} : tObj (He.ga K "Label") (labD K r) = true := decide_eq_true rfl
theorem w_is_label_name {K : Fg} (k : KF K) (E : XK) : OkD K (tabs K) E (F_is_label_name K) 1 0 (t_is_label_name K E) := by
  rintro ds P X ⟨d, rfl, hg, p⟩
  refine ⟨rfl, ?_⟩
  unfold t_is_label_name
  walk_at "go"
  refine ⟨dok_ty hg, bb (fun h => ?_) fun h => ?_⟩
  · cases d with
    | str s =>
      refine x_in ?_
      walk_at "go"
      refine x_con (kL k) ?_
      refine ⟨_, .inl rfl, okd_str (dok_strl hg), okd_lbs, ?_⟩
      rw [any_lbs]
      exact p
    | _ => cases h
  · cases d <;> first | exact p | cases h
theorem lab_of {d : Dt} (h : isLab d = true) : ∃ r, r < 4 ∧ d = .str (lb r) := by
  cases d with
  | str s =>
    have h : s ∈ lbs := by simpa [isLab] using h
    have : s = lb 0 ∨ s = lb 1 ∨ s = lb 2 ∨ s = lb 3 := by simpa [lbs, lb] using h
    rcases this with rfl | rfl | rfl | rfl
    · exact ⟨0, by decide, rfl⟩
    · exact ⟨1, by decide, rfl⟩
    · exact ⟨2, by decide, rfl⟩
    · exact ⟨3, by decide, rfl⟩
  | _ => cases h
theorem w_Label___init {K : Fg} (k : KF K) (E : XK) : OkI K (tabs K) E (He.ga K "Label") (F_Label___init K) 2 0 (t_Label___init K E) := by
  rintro p dx ds P X ⟨d, rfl, hg, hx, hp⟩
  refine ⟨rfl, ?_⟩
  unfold t_Label___init sp_is_label_name sp_BadLabel___init
  show SW K _ E X _ [.owo p (He.ga K "Label") dx [], .val d] _ _ _ _
  walk_at "go"
  refine ⟨d, rfl, hg, _, rfl, fun h => ?_, fun h => ?_⟩
  · walk_at "go"
    exact hx (by simpa using h)
  · obtain ⟨r, hr, rfl⟩ := lab_of (by simpa using h)
    walk_at "go"
    refine s_setO (i := 0) rfl (by decide) ?_
    walk_at "go"
    refine s_setO (i := 0) rfl (by simp [putD]) ?_
    walk_at "go"
    refine x_con (kL k) ?_
    walk_at "go"
    refine x_tindex (kL k) ?_
    walk_at "go"
    refine ⟨lb r, r, rfl, lbs_get hr, lbs_first hr, 3, r, rfl, rfl, ?_⟩
    exact ⟨_, rfl, hp r hr rfl⟩
theorem tObj_no {C : Addr} {d : Dt} {n : Nat} (h : dOk n d) : tObj C d = false := by
  cases d with
  | obj C fs => exact absurd h.1.1 (by simp [plainB])
  | _ => rfl
theorem lab_str {K : Fg} {d : Dt} {n r : Nat} (hg : dOk n d) (h : LabIs K d r) : d = .str (lb r) := by
  rcases h with h | h
  · exact h
  · rw [h] at hg
    exact absurd hg.1.1 (by simp [plainB, labD])
theorem w_made_label {K : Fg} (k : KF K) (E : XK) : OkD K (tabs K) E (F_made_label K) 1 0 (t_made_label K E) := by
  rintro ds P X ⟨d, rfl, ha, hx, hp⟩
  refine ⟨rfl, ?_⟩
  unfold t_made_label sp_Label___init
  walk_at "go"
  rcases ha with hg | ⟨r, hr, rfl⟩
  · refine ⟨dok_ty hg, ?_⟩
    rw [tObj_no hg]
    walk_at "go"
    have e : isLabA d = isLab d := by
      cases d with
      | obj C fs => exact absurd hg.1.1 (by simp [plainB])
      | _ => rfl
    rw [e] at hx
    exact ⟨d, rfl, hg, hx, fun r hr ed => hp r hr (.inl ed)⟩
  · refine ⟨lab_ty, ?_⟩
    rw [tObj_lab]
    walk_at "go"
    exact hp r hr (.inr rfl)
theorem isi_lt {d : Dt} (h : ∀ C fs, d ≠ .obj C fs) : ∃ n b b', tyD d = some n ∧ kitB n "list" = some b ∧ kitB n "tuple" = some b' ∧ (b || b') = isSeq d := by
  cases d with
  | obj C fs => exact absurd rfl (h C fs)
  | non => exact ⟨"NoneType", false, false, rfl, by decide +kernel, by decide +kernel, rfl⟩
  | bl b => exact ⟨"bool", false, false, rfl, by decide +kernel, by decide +kernel, rfl⟩
  | int i => exact ⟨"int", false, false, rfl, by decide +kernel, by decide +kernel, rfl⟩
  | str s => exact ⟨"str", false, false, rfl, by decide +kernel, by decide +kernel, rfl⟩
  | tup l => exact ⟨"tuple", false, true, rfl, by decide +kernel, by decide +kernel, rfl⟩
  | lst l => exact ⟨"list", true, false, rfl, by decide +kernel, by decide +kernel, rfl⟩
  | dct l => exact ⟨"dict", false, false, rfl, by decide +kernel, by decide +kernel, rfl⟩
theorem wra_no {d : Dt} (h : WrA d) : ∀ C fs, d ≠ .obj C fs := fun C fs e => by
  subst e
  rcases h with h | h
  · exact absurd h.1.1 (by simp [plainB])
  · cases h
theorem seq_of {d : Dt} (h : isSeq d = true) : ∃ b l, d = sqD b l ∧ itemsD d = l := by
  cases d with
  | lst l => exact ⟨true, l, rfl, rfl⟩
  | tup l => exact ⟨false, l, rfl, rfl⟩
  | _ => cases h
theorem row_tup {l : List Dt} : rowB (.tup l) = (decide (((l.length : Nat) : Int) = 2) && isNmB (l.getD 0 .non)) := rfl
theorem row_at {d : Dt} (h : rowB d = true) : ∃ x y, d = .tup [x, y] ∧ isNmB x = true := by
  cases d with
  | tup l =>
    rw [row_tup] at h
    obtain ⟨h1, h2⟩ := ba2 h
    have h1 := of_decide_eq_true h1
    match l, h1 with
    | [x, y], _ => exact ⟨x, y, rfl, h2⟩
    | [], h => simp at h
    | [_], h => simp at h
    | _ :: _ :: _ :: _, h => simp at h; omega
  | _ => cases h
theorem en_range {l : List Dt} : enD l = (List.range l.length).map fun i => .tup [.int (i : Nat), l.getD i .non] := by
  apply List.ext_getElem?
  intro i
  by_cases hi : i < l.length
  · have h1 : (enD l)[i]? = some (.tup [.int (i : Nat), l[i]]) := by
      unfold enD
      rw [List.getElem?_map, List.getElem?_zipIdx, List.getElem?_eq_getElem hi]
      simp
    rw [h1, List.getElem?_map, List.getElem?_range hi]
    simp [List.getD_eq_getElem?_getD, List.getElem?_eq_getElem hi]
  · rw [List.getElem?_eq_none (by rw [enD_len]; omega), List.getElem?_eq_none (by simp; omega)]
theorem wr_sq {b : Bool} {l : List Dt} : wrB (sqD b l) = ((decide (l.length ≤ 3) && l.all rowB) && onceB (l.map fun r => prt r 0)) := by
  cases b <;> rfl
theorem w_are_writes {K : Fg} (k : KF K) (E : XK) : OkD K (tabs K) E (F_are_writes K) 5 4 (t_are_writes K E) := by
  rintro ds P X ⟨d, rfl, hw, p⟩
  refine ⟨rfl, ?_⟩
  unfold t_are_writes sp_is_name
  show SW K _ E X _ [.val d, .emp, .emp, .emp, .emp] _ _ _ _
  walk_at "go"
  obtain ⟨n, b1, b2, e1, e2, e3, e4⟩ := isi_lt (wra_no hw)
  refine ⟨n, b1, b2, e1, e2, e3, ?_⟩
  rw [e4]
  refine nob (fun h => ?_) fun h => ?_
  · obtain ⟨b, l, rfl, _⟩ := seq_of h
    have hg : Gd (sqD b l) := hw.resolve_right fun z => by cases b <;> cases z
    rw [wr_sq] at p
    have hlen := dok_len hg
    walk_at "go"
    refine .inl ⟨b, l, rfl, ?_⟩
    walk_at "go"
    have e3 : decide ((3 : Int) < (l.length : Nat)) = !decide (l.length ≤ 3) := by rw [← decide_not]; exact decide_eq_decide.mpr (by omega)
    rw [e3]
    refine bb (fun h1 => ?_) fun h1 => ?_
    · rw [show decide (l.length ≤ 3) = false by simpa using h1] at p
      walk_at "go"
      exact p
    · have h1 : decide (l.length ≤ 3) = true := by simpa using h1
      have hl3 := of_decide_eq_true h1
      rw [h1, Bool.true_and] at p
      walk_at "go"
      refine x_allL (l_map (f := id) (h := fun x => .bl (rowB x)) rfl ?_)
      walk_at "go"
      refine .inl ⟨b, l, rfl, l, (List.map_id _).symm, small hlen, fun x hx => ?_, l.map rowB, (List.map_map (g := Dt.bl) (f := rowB)).symm, ?_⟩
      · have gx : Gd x := dok_parts hg hx
        refine p_name (by simp) rfl ?_
        walk_at "go"
        refine ⟨dok_ty gx, bb (fun h2 => ?_) fun h2 => ?_⟩
        · obtain ⟨r, rfl⟩ : ∃ r, x = .tup r := by cases x <;> first | exact ⟨_, rfl⟩ | cases h2
          walk_at "go"
          rw [row_tup]
          refine bb (fun h3 => ?_) fun h3 => ?_
          · have e2 := of_decide_eq_true h3
            rw [h3, Bool.true_and]
            match r, e2 with
            | [y, z], _ =>
            walk_at "go"
            refine ⟨false, _, 0, 0, y, rfl, rfl, rfl, rfl, ?_⟩
            walk_at "go"
            exact ⟨y, rfl, dok_parts (b := false) gx (by simp), rfl⟩
            | [], h => simp at h
            | [_], h => simp at h
            | _ :: _ :: _ :: _, h => simp at h; omega
          · rw [h3]; rfl
        · cases x <;> first | (cases h2; done) | rfl
      · rw [show (l.map rowB).all id = l.all rowB from List.all_map]
        refine nbb (fun h2 => ?_) fun h2 => ?_
        · rw [h2] at p
          walk_at "go"
          exact p
        · rw [h2, Bool.true_and] at p
          have hr : ∀ x ∈ l, ∃ y z, x = .tup [y, z] ∧ isNmB y = true := fun x hx => row_at (List.all_eq_true.mp h2 x hx)
          refine s_next ?_
          refine s_seq ?_
          refine s_asg ?_
          refine x_l (l_map (f := id) (h := fun x => prt x 0) rfl ?_)
          walk_at "go"
          refine .inl ⟨b, l, rfl, l, (List.map_id _).symm, small hlen, fun x hx => ?_, ?_⟩
          · obtain ⟨y, z, rfl, _⟩ := hr x hx
            refine p_name (by simp) rfl ?_
            walk_at "go"
            exact ⟨false, _, 0, 0, y, rfl, rfl, rfl, rfl, rfl⟩
          · generalize hns : (l.map fun x => prt x 0) = ns at p ⊢
            have gn : ∀ x ∈ ns, Gd x := fun x hx => by
              rw [← hns] at hx
              obtain ⟨w, hw, rfl⟩ := List.mem_map.mp hx
              obtain ⟨y, z, rfl, _⟩ := hr w hw
              exact dok_parts (b := false) (dok_parts hg hw) (by simp [prt])
            have hnl : ns.length ≤ 3 := by rw [← hns, List.length_map]; exact hl3
            walk_at "go"
            refine x_allL (l_map (f := fun i : Nat => .tup [.int (i : Nat), ns.getD i .non]) (h := fun i => .bl (!((ns.take i).any fun z => eqD z (ns.getD i .non)))) rfl ?_)
            walk_at "go"
            refine ⟨List.range ns.length, en_range, small (by rw [List.length_range]; omega), fun i hi => ?_, (List.range ns.length).map fun i => !((ns.take i).any fun z => eqD z (ns.getD i .non)), (List.map_map (g := Dt.bl)).symm, ?_⟩
            · have hi := List.mem_range.mp hi
              have hm : ns.getD i .non ∈ ns := by
                rw [List.getD_eq_getElem?_getD, List.getElem?_eq_getElem hi]; exact List.getElem_mem hi
              refine p_tup rfl (ps_cons (p_name (by simp) rfl (ps_cons (p_name (by simp) rfl (ps_nil ?_)))))
              refine x_nin ?_
              walk_at "go"
              refine x_l (l_sl ?_)
              walk_at "go"
              refine ⟨_, rfl, ns, rfl, ?_⟩
              rw [cut_take]
              exact ⟨ns.take i, .inr rfl, (gn _ hm).1, (dok_lst (S := ns.take i) (fun x hx => gn x (List.mem_of_mem_take hx)) (by rw [List.length_take]; omega) (by decide)).1, rfl⟩
            · rw [show ((List.range ns.length).map fun i => !((ns.take i).any fun z => eqD z (ns.getD i .non))).all id = onceB ns from List.all_map]
              exact p
  · have e : wrB d = false := by unfold wrB; rw [h]; rfl
    rw [e] at p
    walk_at "go"
    exact p
end Lp.Q

set_option Elab.async false
set_option linter.all false
set_option maxRecDepth 100000
set_option maxHeartbeats 4000000
/-! k04W4: functions. Own work. -/
namespace Lp.Q
open PySem PySem.Spec PyProof.Rows L2 LamX Lp
local macro_rules | `(tactic| walk_at "lp") => `(tactic| first
  | with_reducible refine s_seq ?_
  | with_reducible refine s_if ?_
  | with_reducible refine s_ret ?_
  | with_reducible refine s_next ?_
  | with_reducible refine s_asg ?_
  | with_reducible refine t_test ?_
  | with_reducible refine t_val ?_
  | with_reducible refine t_and ?_
  | with_reducible refine t_or ?_
  | with_reducible refine t_not ?_
  | ((with_reducible apply x_var); (focus rfl))
  | with_reducible refine x_non ?_
  | with_reducible refine x_bl ?_
  | with_reducible refine x_int ?_
  | with_reducible refine x_str ?_
  | with_reducible refine x_and ?_
  | with_reducible refine x_or ?_
  | with_reducible refine x_not ?_
  | with_reducible refine x_if ?_
  | with_reducible refine x_isInt ?_
  | with_reducible refine x_isBool ?_
  | with_reducible refine x_isStr ?_
  | with_reducible refine x_isTup ?_
  | with_reducible refine x_isLst ?_
  | with_reducible refine x_isDct ?_
  | ((with_reducible refine x_isObj ?_ ?_); (focus (simp [Cs])))
  | with_reducible refine x_isi2 ?_
  | with_reducible refine x_len ?_
  | with_reducible refine x_eq ?_
  | with_reducible refine x_ne ?_
  | with_reducible refine x_ix ?_
  | with_reducible refine x_fld ?_
  | with_reducible refine x_tup ?_
  | with_reducible refine x_call ?_
  | with_reducible refine x_make ?_
  | with_reducible refine x_meth ?_
  | with_reducible refine x_makeN ?_
  | with_reducible refine x_callP ?_
  | with_reducible refine x_makeP ?_
  | with_reducible refine x_makeNP ?_
  | with_reducible refine x_sum ?_
  | with_reducible refine i_rng3 ?_
  | with_reducible refine x_methP ?_
  | ((with_reducible apply x_callJ); (focus rfl))
  | with_reducible refine a_cons ?_
  | with_reducible refine a_nil ?_
  | ((with_reducible apply b_own); (focus rfl))
  | ((with_reducible apply b_var); (focus rfl))
  | with_reducible refine EX.eb ?_
  | with_reducible refine l_list ?_
  | with_reducible refine l_lst ?_
  | with_reducible refine l_revL ?_
  | with_reducible refine l_sortS ?_
  | with_reducible refine i_u ?_
  | with_reducible refine i_rng1 ?_
  | with_reducible refine i_rng2 ?_
  | with_reducible refine i_enum ?_
  | with_reducible refine x_isNB ?_
  | with_reducible refine x_notNB ?_
  | with_reducible refine x_tuple ?_
  | with_reducible refine x_int1 ?_
  | with_reducible refine x_bool1 ?_
  | with_reducible refine x_str1 ?_
  | with_reducible refine x_max2 ?_
  | with_reducible refine x_sub ?_
  | with_reducible refine x_mod ?_
  | with_reducible refine x_fdiv ?_
  | with_reducible refine x_pow ?_
  | with_reducible refine x_gt ?_
  | with_reducible refine x_ge ?_
  | with_reducible refine x_le ?_
  | with_reducible refine x_neg ?_
  | with_reducible refine s_retN ?_
  | with_reducible refine s_raise ?_
  | with_reducible refine s_brk ?_
  | with_reducible refine s_ct ?_
  | with_reducible refine le_le ?_
  | with_reducible refine le_lt ?_
  | with_reducible refine o_no ?_
  | with_reducible refine tyes ?_
  | with_reducible refine x_l_lst ?_
  | with_reducible refine x_l_lc ?_
  | with_reducible refine x_l_list ?_
  | with_reducible refine x_l_sort ?_
  | with_reducible refine x_l_rev ?_
  | with_reducible refine o_at ?_)
local macro_rules | `(tactic| walk_at "an") => `(tactic| first
  | refine ⟨trivial, ?_⟩
  | refine ⟨_, _, rfl, rfl, ?_⟩
  | refine bt ?_
  | refine bf ?_
  | refine nbt ?_
  | refine nbf ?_
  | refine ot ?_
  | refine of ?_
  | refine not_ ?_
  | refine nof ?_
  | refine ⟨true, _, rfl, ?_⟩
  | refine ⟨false, _, rfl, ?_⟩
  | refine .inl ⟨true, _, rfl, ?_⟩
  | refine .inl ⟨false, _, rfl, ?_⟩
  | refine ct ?_
  | refine cf ?_
  | refine ct' ?_
  | refine cf' ?_
  | (refine ⟨okd_int _, okd_int _, ?_⟩; rw [eqD_I]; try rw [dec_refl])
  | (refine ⟨okd_bl _, okd_bl _, ?_⟩; rw [eqD_B]; try rw [dec_refl]))
local macro_rules | `(tactic| walk_at "go") => `(tactic| repeat (first | walk_at "lp" | walk_at "an"))
theorem exf1 : exF "BadPart" = "part" := by decide
theorem exf2 : exF "BadLabel" = "label" := by decide
theorem exf3 : exF "BadTerm" = "term" := by decide
theorem bad_none {a : Int} : ∀ {l : List Dt}, (∀ r ∈ l, termB a (prt r 1) = true) → badW a l = none
  | [], _ => rfl
  | r :: l, h => by
    unfold badW
    rw [h r List.mem_cons_self]
    exact bad_none fun x hx => h x (List.mem_cons_of_mem _ hx)
theorem bad_at {a : Int} {t : Dt} : ∀ {l : List Dt} {i : Nat} {r : Dt}, (∀ x ∈ l.take i, termB a (prt x 1) = true) → l[i]? = some r → termB a (prt r 1) = false → badW a l = some (prt r 1)
  | [], _, _, _, h, _ => by cases h
  | x :: l, 0, r, _, h, hb => by
    cases h
    unfold badW
    rw [hb]; rfl
  | x :: l, i + 1, r, ht, h, hb => by
    unfold badW
    rw [ht x (by simp), if_pos rfl]
    exact bad_at (t := t) (i := i) (fun y hy => ht y (by simp [hy])) (by simpa using h) hb
theorem w_Function___init {K : Fg} (k : KF K) (E : XK) : OkI K (tabs K) E (He.ga K "Function") (F_Function___init K) 8 1 (t_Function___init K E) := by
  rintro p dx ds P X ⟨n, m, r, l, w, c, rfl, ⟨gn, gm, gr, hl, hw, gc⟩, hx, hp⟩
  refine ⟨rfl, ?_⟩
  unfold t_Function___init sp_is_name sp_is_between sp_made_label sp_is_term sp_are_writes sp_BadPart___init sp_BadTerm___init
  show SW K _ E X _ [.owo p (He.ga K "Function") dx [], .val n, .val m, .val r, .val l, .val w, .val c, .emp] _ _ _ _
  walk_at "go"
  refine ⟨n, rfl, gn, nbb (fun h1 => ?_) fun h1 => ?_⟩
  · walk_at "go"
    have := hx "BadPart" (.str "name") (by simp [refu, h1])
    rw [exf1] at this
    exact this
  walk_at "go"
  refine ⟨m, 0, 2, rfl, gm, nbb (fun h2 => ?_) fun h2 => ?_⟩
  · walk_at "go"
    have := hx "BadPart" (.str "arguments") (by simp [refu, h1, h2])
    rw [exf1] at this
    exact this
  obtain ⟨a, rfl⟩ : ∃ a, m = .int a := by cases m <;> first | exact ⟨_, rfl⟩ | cases h2
  walk_at "go"
  refine s_setO (i := 0) rfl (by decide) ?_
  walk_at "go"
  refine ⟨l, rfl, hl, fun h3 => ?_, fun q hq hk => ?_⟩
  · have := hx "BadLabel" l (by simp [refu, h1, h2, h3])
    rw [exf2] at this
    exact this
  have h3 : isLabA l = true := by
    rcases hk with rfl | rfl
    · exact decide_eq_true (lb_in hq)
    · rfl
  walk_at "go"
  refine ⟨r, a, rfl, gr, nbb (fun h4 => ?_) fun h4 => ?_⟩
  · walk_at "go"
    have := hx "BadTerm" r (by simp [refu, h1, h2, h3, intOf, h4])
    rw [exf3] at this
    exact this
  walk_at "go"
  refine ⟨w, rfl, hw, nbb (fun h5 => ?_) fun h5 => ?_⟩
  · walk_at "go"
    have := hx "BadPart" (.str "writes") (by simp [refu, h1, h2, h3, intOf, h4, h5])
    rw [exf1] at this
    exact this
  obtain ⟨b, ws, rfl, hi⟩ : ∃ b ws, w = sqD b ws ∧ itemsD w = ws := by
    have : isSeq w = true := by
      unfold wrB at h5
      exact (ba2 (ba2 (ba2 h5).1).1).1
    exact seq_of this
  have gw : Gd (sqD b ws) := hw.resolve_right fun z => by cases b <;> cases z
  rw [wr_sq] at h5
  have hrow : ∀ x ∈ ws, ∃ y z, x = .tup [y, z] ∧ isNmB y = true := fun x hx => row_at (List.all_eq_true.mp (ba2 (ba2 h5).1).2 x hx)
  have hwr : wrB (sqD b ws) = true := by rw [wr_sq]; exact h5
  rw [hi] at hp
  walk_at "go"
  refine s_for ?_
  walk_at "go"
  refine .inl ⟨b, ws, rfl, fun i Γ' => ∃ e, Γ' = [.owo p (He.ga K "Function") dx [("label", labD K q)], .val n, .val (.int a), .val r, .val l, .val (sqD b ws), .val c, e] ∧ noOwn Γ' 7 = true ∧ ∀ x ∈ ws.take i, termB a (prt x 1) = true, [7], ⟨.emp, rfl, rfl, fun _ z => by simp at z⟩, fun i d Γ' hd iv => ?_, fun Γ' iv => ?_⟩
  · obtain ⟨e, rfl, n7, ht⟩ := iv
    have hm := List.mem_of_getElem? hd
    obtain ⟨y, z, rfl, _⟩ := hrow d hm
    have gz : Gd z := dok_parts (b := false) (dok_parts gw hm) (by simp)
    refine g_p (p_name (by simp) n7 ?_)
    walk_at "go"
    refine ⟨false, _, 1, 1, z, rfl, rfl, rfl, rfl, ?_⟩
    walk_at "go"
    refine ⟨z, a, rfl, gz, nbb (fun h6 => ?_) fun h6 => ?_⟩
    · walk_at "go"
      refine ⟨false, _, 1, 1, z, rfl, rfl, rfl, rfl, ?_⟩
      have := hx "BadTerm" z (by simp [refu, h1, h2, h3, intOf, h4, hwr, hi, bad_at (t := .non) ht hd h6, prt])
      rw [exf3] at this
      exact this
    · walk_at "go"
      refine ⟨_, rfl, rfl, fun x hx => ?_⟩
      rw [List.take_add_one, hd] at hx
      rcases List.mem_append.mp hx with hx | hx
      · exact ht x hx
      · have : x = .tup [y, z] := by simpa using hx
        rw [this]; exact h6
  · obtain ⟨e, rfl, n7, ht⟩ := iv
    rw [List.take_length] at ht
    have hbn := bad_none ht
    walk_at "go"
    refine ⟨c, 0, 99, rfl, gc, nbb (fun h6 => ?_) fun h6 => ?_⟩
    · walk_at "go"
      have := hx "BadPart" (.str "cost") (by simp [refu, h1, h2, h3, intOf, h4, hwr, hi, hbn, h6])
      rw [exf1] at this
      exact this
    walk_at "go"
    refine s_setO (i := 0) rfl (by simp (decide := true) [putD]) ?_
    walk_at "go"
    refine s_setO (i := 0) rfl (by simp (decide := true) [putD]) ?_
    walk_at "go"
    refine s_setO (i := 0) rfl (by simp (decide := true) [putD]) ?_
    walk_at "go"
    refine s_setO (i := 0) rfl (by simp (decide := true) [putD]) ?_
    walk_at "go"
    refine ⟨b, ws, rfl, ?_⟩
    walk_at "go"
    refine s_setO (i := 0) rfl (by simp (decide := true) [putD]) ?_
    walk_at "go"
    refine ⟨_, rfl, ?_⟩
    exact hp (by simp [refu, h1, h2, h3, intOf, h4, hwr, hi, hbn, h6]) q hq hk
theorem f_name {K : Fg} : He.ga K "Function" ∈ fC_name K := by simp [fC_name]
theorem f_args {K : Fg} : He.ga K "Function" ∈ fC_arguments K := by simp [fC_arguments]
theorem f_res {K : Fg} : He.ga K "Function" ∈ fC_result K := by simp [fC_result]
theorem f_lab {K : Fg} : He.ga K "Function" ∈ fC_label K := by simp [fC_label]
theorem f_wr {K : Fg} : He.ga K "Function" ∈ fC_writes K := by simp [fC_writes]
theorem f_cost {K : Fg} : He.ga K "Function" ∈ fC_cost K := by simp [fC_cost]
theorem w_Function_with_parts {K : Fg} (k : KF K) (E : XK) : OkD K (tabs K) E (F_Function_with_parts K) 5 0 (t_Function_with_parts K E) := by
  rintro ds P X ⟨n, m, r0, k0, ws0, c0, r, l, w, c, rfl, hs, hx, hp⟩
  refine ⟨rfl, ?_⟩
  unfold t_Function_with_parts sp_Function___init
  show SW K _ E X _ [.val (funO K n m r0 k0 ws0 c0), .val r, .val l, .val w, .val c] _ _ _ _
  walk_at "go"
  refine ⟨_, _, _, rfl, f_name, rfl, ?_⟩
  walk_at "go"
  refine ⟨_, _, _, rfl, f_args, rfl, ?_⟩
  walk_at "go"
  exact ⟨rfl, rfl, n, m, r, l, w, c, rfl, hs, hx, hp⟩
theorem w_Function_labelled {K : Fg} (k : KF K) (E : XK) : OkD K (tabs K) E (F_Function_labelled K) 2 0 (t_Function_labelled K E) := by
  rintro ds P X ⟨n, m, r, k0, ws, c, l, rfl, hs, hx, hp⟩
  refine ⟨rfl, ?_⟩
  unfold t_Function_labelled sp_Function_with_parts
  show SW K _ E X _ [.val (funO K n m r k0 ws c), .val l] _ _ _ _
  walk_at "go"
  refine ⟨_, rfl, rfl, ?_⟩
  walk_at "go"
  refine ⟨_, _, _, rfl, f_res, rfl, ?_⟩
  walk_at "go"
  refine ⟨_, _, _, rfl, f_wr, rfl, ?_⟩
  walk_at "go"
  refine ⟨_, _, _, rfl, f_cost, rfl, ?_⟩
  walk_at "go"
  exact ⟨n, m, r, k0, ws, c, r, l, .tup ws, c, rfl, hs, hx, hp⟩
def pts : List Str := ["result", "writes", "cost"]
theorem okd_pts : Okd (.tup (pts.map .str)) := (dok_tup (n := 1) (S := pts.map .str) (fun d hd => by
  obtain ⟨s, hs, rfl⟩ := List.mem_map.mp hd
  have : strOkB s = true := by
    have h : ∀ s ∈ pts, strOkB s = true := by decide +kernel
    exact h s hs
  exact dok_str this) (by decide) (by decide)).1
theorem pts_ok {p : Str} (h : p ∈ pts) : strOkB p = true := by
  have h' : ∀ s ∈ pts, strOkB s = true := by decide +kernel
  exact h' p h
theorem w_Function_changed {K : Fg} (k : KF K) (E : XK) : OkD K (tabs K) E (F_Function_changed K) 3 0 (t_Function_changed K E) := by
  rintro ds P X ⟨n, m, r, k0, ws, c, p, d, rfl, hk0, h⟩
  refine ⟨rfl, ?_⟩
  unfold t_Function_changed sp_Function_with_parts sp_BadPart___init
  show SW K _ E X _ [.val (funO K n m r k0 ws c), .val (.str p), .val d] _ _ _ _
  have hp : p ∈ pts := by
    rcases h with ⟨rfl, _⟩ | ⟨rfl, _⟩ | ⟨rfl, _⟩ <;> decide
  have okp := okd_str (pts_ok hp)
  have lk : ∀ q, q ∈ pts → (pts.any fun s => isS (.str q) s) = true := by decide
  walk_at "go"
  refine x_nin ?_
  walk_at "go"
  refine x_con k.c_PARTS ?_
  refine ⟨pts.map .str, .inl rfl, okp, okd_pts, ?_⟩
  rw [any_strs, lk p hp]
  walk_at "go"
  refine ⟨okp, okd_str (by decide +kernel), ?_⟩
  rw [eqD_S]
  rcases h with ⟨rfl, hs, hx, hq⟩ | ⟨rfl, hs, hx, hq⟩ | ⟨rfl, hs, hx, hq⟩
  · rw [show decide (("result" : Str) = "result") = true from by decide]
    walk_at "go"
    refine ⟨_, rfl, rfl, ?_⟩
    walk_at "go"
    refine ⟨_, _, _, rfl, f_lab, rfl, ?_⟩
    walk_at "go"
    refine ⟨_, _, _, rfl, f_wr, rfl, ?_⟩
    walk_at "go"
    refine ⟨_, _, _, rfl, f_cost, rfl, ?_⟩
    walk_at "go"
    exact ⟨n, m, r, k0, ws, c, d, labD K k0, .tup ws, c, rfl, hs, hx, hq⟩
  · rw [show decide (("writes" : Str) = "result") = false from by decide]
    walk_at "go"
    refine ⟨okp, okd_str (by decide +kernel), ?_⟩
    rw [eqD_S]
    rw [show decide (("writes" : Str) = "writes") = true from by decide]
    walk_at "go"
    refine ⟨_, rfl, rfl, ?_⟩
    walk_at "go"
    refine ⟨_, _, _, rfl, f_res, rfl, ?_⟩
    walk_at "go"
    refine ⟨_, _, _, rfl, f_lab, rfl, ?_⟩
    walk_at "go"
    refine ⟨_, _, _, rfl, f_cost, rfl, ?_⟩
    walk_at "go"
    exact ⟨n, m, r, k0, ws, c, r, labD K k0, d, c, rfl, hs, hx, hq⟩
  · rw [show decide (("cost" : Str) = "result") = false from by decide]
    walk_at "go"
    refine ⟨okp, okd_str (by decide +kernel), ?_⟩
    rw [eqD_S]
    rw [show decide (("cost" : Str) = "writes") = false from by decide]
    walk_at "go"
    refine ⟨_, rfl, rfl, ?_⟩
    walk_at "go"
    refine ⟨_, _, _, rfl, f_res, rfl, ?_⟩
    walk_at "go"
    refine ⟨_, _, _, rfl, f_lab, rfl, ?_⟩
    walk_at "go"
    refine ⟨_, _, _, rfl, f_wr, rfl, ?_⟩
    walk_at "go"
    exact ⟨n, m, r, k0, ws, c, r, labD K k0, .tup ws, d, rfl, hs, hx, hq⟩
end Lp.Q

set_option Elab.async false
set_option linter.all false
set_option maxRecDepth 100000
set_option maxHeartbeats 4000000
/-! k04W5: terms as the law reads them. Own work. -/
namespace Lp.Q
open PySem PySem.Spec PyProof.Rows L2 LamX Lp
local macro_rules | `(tactic| walk_at "lp") => `(tactic| first
  | with_reducible refine s_seq ?_
  | with_reducible refine s_if ?_
  | with_reducible refine s_ret ?_
  | with_reducible refine s_next ?_
  | with_reducible refine s_asg ?_
  | with_reducible refine t_test ?_
  | with_reducible refine t_val ?_
  | with_reducible refine t_and ?_
  | with_reducible refine t_or ?_
  | with_reducible refine t_not ?_
  | ((with_reducible apply x_var); (focus rfl))
  | with_reducible refine x_non ?_
  | with_reducible refine x_bl ?_
  | with_reducible refine x_int ?_
  | with_reducible refine x_str ?_
  | with_reducible refine x_and ?_
  | with_reducible refine x_or ?_
  | with_reducible refine x_not ?_
  | with_reducible refine x_if ?_
  | with_reducible refine x_isInt ?_
  | with_reducible refine x_isBool ?_
  | with_reducible refine x_isStr ?_
  | with_reducible refine x_isTup ?_
  | with_reducible refine x_isLst ?_
  | with_reducible refine x_isDct ?_
  | ((with_reducible refine x_isObj ?_ ?_); (focus (simp [Cs])))
  | with_reducible refine x_isi2 ?_
  | with_reducible refine x_len ?_
  | with_reducible refine x_eq ?_
  | with_reducible refine x_ne ?_
  | with_reducible refine x_ix ?_
  | with_reducible refine x_fld ?_
  | with_reducible refine x_tup ?_
  | with_reducible refine x_call ?_
  | with_reducible refine x_make ?_
  | with_reducible refine x_meth ?_
  | with_reducible refine x_makeN ?_
  | with_reducible refine x_callP ?_
  | with_reducible refine x_makeP ?_
  | with_reducible refine x_makeNP ?_
  | with_reducible refine x_sum ?_
  | with_reducible refine i_rng3 ?_
  | with_reducible refine x_methP ?_
  | ((with_reducible apply x_callJ); (focus rfl))
  | with_reducible refine a_cons ?_
  | with_reducible refine a_nil ?_
  | ((with_reducible apply b_own); (focus rfl))
  | ((with_reducible apply b_var); (focus rfl))
  | with_reducible refine EX.eb ?_
  | with_reducible refine l_list ?_
  | with_reducible refine l_lst ?_
  | with_reducible refine l_revL ?_
  | with_reducible refine l_sortS ?_
  | with_reducible refine i_u ?_
  | with_reducible refine i_rng1 ?_
  | with_reducible refine i_rng2 ?_
  | with_reducible refine i_enum ?_
  | with_reducible refine x_isNB ?_
  | with_reducible refine x_notNB ?_
  | with_reducible refine x_tuple ?_
  | with_reducible refine x_int1 ?_
  | with_reducible refine x_bool1 ?_
  | with_reducible refine x_str1 ?_
  | with_reducible refine x_max2 ?_
  | with_reducible refine x_sub ?_
  | with_reducible refine x_mod ?_
  | with_reducible refine x_fdiv ?_
  | with_reducible refine x_pow ?_
  | with_reducible refine x_gt ?_
  | with_reducible refine x_ge ?_
  | with_reducible refine x_le ?_
  | with_reducible refine x_neg ?_
  | with_reducible refine s_retN ?_
  | with_reducible refine s_raise ?_
  | with_reducible refine s_brk ?_
  | with_reducible refine s_ct ?_
  | with_reducible refine le_le ?_
  | with_reducible refine le_lt ?_
  | with_reducible refine o_no ?_
  | with_reducible refine tyes ?_
  | with_reducible refine x_l_lst ?_
  | with_reducible refine x_l_lc ?_
  | with_reducible refine x_l_list ?_
  | with_reducible refine x_l_sort ?_
  | with_reducible refine x_l_rev ?_
  | with_reducible refine o_at ?_)
local macro_rules | `(tactic| walk_at "an") => `(tactic| first
  | refine ⟨trivial, ?_⟩
  | refine ⟨_, _, rfl, rfl, ?_⟩
  | refine bt ?_
  | refine bf ?_
  | refine nbt ?_
  | refine nbf ?_
  | refine ot ?_
  | refine of ?_
  | refine not_ ?_
  | refine nof ?_
  | refine ⟨true, _, rfl, ?_⟩
  | refine ⟨false, _, rfl, ?_⟩
  | refine .inl ⟨true, _, rfl, ?_⟩
  | refine .inl ⟨false, _, rfl, ?_⟩
  | refine ct ?_
  | refine cf ?_
  | refine ct' ?_
  | refine cf' ?_
  | (refine ⟨okd_int _, okd_int _, ?_⟩; rw [eqD_I]; try rw [dec_refl])
  | (refine ⟨okd_bl _, okd_bl _, ?_⟩; rw [eqD_B]; try rw [dec_refl]))
local macro_rules | `(tactic| walk_at "go") => `(tactic| repeat (first | walk_at "lp" | walk_at "an"))
/-! ### both readings are one -/
theorem frm_s {n : Nat} {a : Int} {d : Dt} : frmB (n + 1) a d = (formB a d && (innD d).all (frmB n a)) := rfl
theorem sz_s {n : Nat} {d : Dt} : szT (n + 1) d = 1 + ((innD d).map (szT n)).sum := rfl
theorem dp_s {n : Nat} {d : Dt} : dpT (n + 1) d = 1 + ((innD d).map (dpT n)).foldl max 0 := rfl
theorem sz_layer {n : Nat} : ∀ l : List Dt, (l.map (szT (n + 1))).sum = l.length + ((l.flatMap innD).map (szT n)).sum
  | [] => rfl
  | x :: l => by
    rw [List.map_cons, List.sum_cons, sz_s, sz_layer l, List.flatMap_cons, List.map_append, List.sum_append, List.length_cons]
    omega
theorem frm_layer {n : Nat} {a : Int} : ∀ l : List Dt, l.all (frmB (n + 1) a) = (l.all (formB a) && (l.flatMap innD).all (frmB n a))
  | [] => rfl
  | x :: l => by
    rw [List.all_cons, frm_s, frm_layer l, List.flatMap_cons, List.all_append, List.all_cons]
    cases formB a x <;> cases (innD x).all (frmB n a) <;> cases l.all (formB a) <;> simp
theorem bfs_eq {a : Int} : ∀ (k : Nat) (l : List Dt) (parts : Nat), l ≠ [] → bfs a k l parts = (l.all (frmB k a) && decide (parts + (l.map (szT k)).sum ≤ 30))
  | 0, l, parts, h => by
    cases l with
    | nil => exact absurd rfl h
    | cons x l => rfl
  | k + 1, l, parts, h => by
    rw [bfs_step, sz_layer, frm_layer]
    by_cases h1 : 30 < parts + l.length
    · rw [decide_eq_true h1, Bool.true_or, if_pos rfl, decide_eq_false (show ¬ parts + (l.length + ((l.flatMap innD).map (szT k)).sum) ≤ 30 by omega), Bool.and_false]
    · rw [decide_eq_false h1, Bool.false_or]
      cases h2 : l.all (formB a) with
      | false => rfl
      | true =>
        rw [if_neg (by simp), Bool.true_and]
        by_cases h3 : l.flatMap innD = []
        · rw [if_pos h3, h3]
          exact (decide_eq_true (show parts + (l.length + 0) ≤ 30 by omega)).symm
        · rw [if_neg h3, bfs_eq k _ _ h3, Nat.add_assoc]
theorem term_eq {a : Int} {d : Dt} : termB a d = (frmB 8 a d && decide (szT 8 d ≤ 30)) := by
  unfold termB
  rw [bfs_eq 8 [d] 0 (by simp)]
  simp
theorem fmax_le {l : List Nat} {k : Nat} : l.foldl max 0 ≤ k ↔ ∀ x ∈ l, x ≤ k := by
  have key : ∀ (l : List Nat) (m : Nat), l.foldl max m ≤ k ↔ m ≤ k ∧ ∀ x ∈ l, x ≤ k := by
    intro l
    induction l with
    | nil => intro m; simp
    | cons x l ih =>
      intro m
      rw [List.foldl_cons, ih]
      constructor
      · rintro ⟨h1, h2⟩
        exact ⟨by omega, fun y hy => by rcases List.mem_cons.mp hy with rfl | hy; · omega
                                        · exact h2 y hy⟩
      · rintro ⟨h1, h2⟩
        exact ⟨Nat.max_le.mpr ⟨h1, h2 x List.mem_cons_self⟩, fun y hy => h2 y (List.mem_cons_of_mem _ hy)⟩
  rw [key]
  simp
theorem fuel_up {a : Int} : ∀ (k N : Nat) (d : Dt), k ≤ N → frmB k a d = true → frmB N a d = true ∧ szT N d = szT k d ∧ dpT N d = dpT k d ∧ dpT k d ≤ k
  | 0, _, _, _, h => by cases h
  | k + 1, 0, _, h, _ => by omega
  | k + 1, N + 1, d, h, hf => by
    rw [frm_s, Bool.and_eq_true] at hf
    have ih := fun x hx => fuel_up k N x (by omega) (List.all_eq_true.mp hf.2 x hx)
    refine ⟨?_, ?_, ?_, ?_⟩
    · rw [frm_s, hf.1, Bool.true_and]
      exact List.all_eq_true.mpr fun x hx => (ih x hx).1
    · rw [sz_s, sz_s, List.map_congr_left fun x hx => (ih x hx).2.1]
    · rw [dp_s, dp_s, List.map_congr_left fun x hx => (ih x hx).2.2.1]
    · rw [dp_s]
      have : ((innD d).map (dpT k)).foldl max 0 ≤ k := fmax_le.mpr fun y hy => by
        obtain ⟨x, hx, rfl⟩ := List.mem_map.mp hy
        exact (ih x hx).2.2.2
      omega
theorem fuel_down {a : Int} : ∀ (N k : Nat) (d : Dt), frmB N a d = true → dpT N d ≤ k → frmB k a d = true
  | 0, _, _, h, _ => by cases h
  | N + 1, 0, d, h, hd => by rw [dp_s] at hd; omega
  | N + 1, k + 1, d, h, hd => by
    rw [frm_s, Bool.and_eq_true] at h
    rw [dp_s] at hd
    have hd' := fmax_le.mp (show ((innD d).map (dpT N)).foldl max 0 ≤ k by omega)
    rw [frm_s, h.1, Bool.true_and]
    exact List.all_eq_true.mpr fun x hx => fuel_down N k x (List.all_eq_true.mp h.2 x hx) (hd' _ (List.mem_map.mpr ⟨x, hx, rfl⟩))
theorem law_term {a : Int} {d : Dt} : (frmB 24 a d && (decide (szT 24 d ≤ 30) && decide (dpT 24 d ≤ 8))) = termB a d := by
  rw [term_eq]
  cases h : frmB 24 a d with
  | false =>
    cases h8 : frmB 8 a d with
    | false => rfl
    | true => rw [(fuel_up 8 24 d (by decide) h8).1] at h; cases h
  | true =>
    rw [Bool.true_and]
    by_cases hd : dpT 24 d ≤ 8
    · have h8 := fuel_down 24 8 d h hd
      rw [h8, (fuel_up 8 24 d (by decide) h8).2.1, decide_eq_true hd, Bool.and_true, Bool.true_and]
    · rw [decide_eq_false hd, Bool.and_false]
      cases h8 : frmB 8 a d with
      | false => rfl
      | true =>
        have := fuel_up 8 24 d (by decide) h8
        omega
/-- at most three arms: sizes are bounded -/
theorem sz_le {a : Int} : ∀ (n : Nat) (d : Dt), frmB n a d = true → 2 * szT n d + 1 ≤ 3 ^ n
  | 0, _, h => by cases h
  | n + 1, d, h => by
    rw [frm_s, Bool.and_eq_true] at h
    have h3 := inn_len h.1
    have ih := fun x hx => sz_le n x (List.all_eq_true.mp h.2 x hx)
    have key : ∀ l : List Dt, (∀ x ∈ l, 2 * szT n x + 1 ≤ 3 ^ n) → 2 * (l.map (szT n)).sum + l.length ≤ l.length * 3 ^ n := by
      intro l
      induction l with
      | nil => intro _; simp
      | cons x l ihl =>
        intro hx
        have h1 := hx x List.mem_cons_self
        have h2 := ihl fun y hy => hx y (List.mem_cons_of_mem _ hy)
        rw [List.map_cons, List.sum_cons, List.length_cons, Nat.add_mul]
        omega
    have hk := key (innD d) ih
    have hp : 1 ≤ 3 ^ n := Nat.one_le_pow _ _ (by decide)
    rw [sz_s, Nat.pow_succ]
    match hl : (innD d).length, h3 with
    | 0, _ => rw [hl] at hk; omega
    | 1, _ => rw [hl] at hk; omega
    | 2, _ => rw [hl] at hk; omega
    | 3, _ => rw [hl] at hk; omega
theorem frm_nont {n : Nat} {a : Int} {d : Dt} (h : tTuple d = false) : frmB (n + 1) a d = btwB d 0 2 := by
  rw [frm_s]
  cases d with
  | tup l => cases h
  | int i =>
    show (formB a (.int i) && true) = _
    rw [Bool.and_true]
    unfold formB
    cases hb : btwB (.int i) 0 2 <;> rfl
  | _ => rfl
end Lp.Q

set_option Elab.async false
set_option linter.all false
set_option maxRecDepth 100000
set_option maxHeartbeats 4000000
/-! k04W6: the law's own words of terms. Own work. -/
namespace Lp.Q
open PySem PySem.Spec PyProof.Rows L2 LamX Lp
local macro_rules | `(tactic| walk_at "lp") => `(tactic| first
  | with_reducible refine s_seq ?_
  | with_reducible refine s_if ?_
  | with_reducible refine s_ret ?_
  | with_reducible refine s_next ?_
  | with_reducible refine s_asg ?_
  | with_reducible refine t_test ?_
  | with_reducible refine t_val ?_
  | with_reducible refine t_and ?_
  | with_reducible refine t_or ?_
  | with_reducible refine t_not ?_
  | ((with_reducible apply x_var); (focus rfl))
  | with_reducible refine x_non ?_
  | with_reducible refine x_bl ?_
  | with_reducible refine x_int ?_
  | with_reducible refine x_str ?_
  | with_reducible refine x_and ?_
  | with_reducible refine x_or ?_
  | with_reducible refine x_not ?_
  | with_reducible refine x_if ?_
  | with_reducible refine x_isInt ?_
  | with_reducible refine x_isBool ?_
  | with_reducible refine x_isStr ?_
  | with_reducible refine x_isTup ?_
  | with_reducible refine x_isLst ?_
  | with_reducible refine x_isDct ?_
  | ((with_reducible refine x_isObj ?_ ?_); (focus (simp [Cs])))
  | with_reducible refine x_isi2 ?_
  | with_reducible refine x_len ?_
  | with_reducible refine x_eq ?_
  | with_reducible refine x_ne ?_
  | with_reducible refine x_ix ?_
  | with_reducible refine x_fld ?_
  | with_reducible refine x_tup ?_
  | with_reducible refine x_call ?_
  | with_reducible refine x_make ?_
  | with_reducible refine x_meth ?_
  | with_reducible refine x_makeN ?_
  | with_reducible refine x_callP ?_
  | with_reducible refine x_makeP ?_
  | with_reducible refine x_makeNP ?_
  | with_reducible refine x_sum ?_
  | with_reducible refine i_rng3 ?_
  | with_reducible refine x_methP ?_
  | ((with_reducible apply x_callJ); (focus rfl))
  | with_reducible refine a_cons ?_
  | with_reducible refine a_nil ?_
  | ((with_reducible apply b_own); (focus rfl))
  | ((with_reducible apply b_var); (focus rfl))
  | with_reducible refine EX.eb ?_
  | with_reducible refine l_list ?_
  | with_reducible refine l_lst ?_
  | with_reducible refine l_revL ?_
  | with_reducible refine l_sortS ?_
  | with_reducible refine i_u ?_
  | with_reducible refine i_rng1 ?_
  | with_reducible refine i_rng2 ?_
  | with_reducible refine i_enum ?_
  | with_reducible refine x_isNB ?_
  | with_reducible refine x_notNB ?_
  | with_reducible refine x_tuple ?_
  | with_reducible refine x_int1 ?_
  | with_reducible refine x_bool1 ?_
  | with_reducible refine x_str1 ?_
  | with_reducible refine x_max2 ?_
  | with_reducible refine x_sub ?_
  | with_reducible refine x_mod ?_
  | with_reducible refine x_fdiv ?_
  | with_reducible refine x_pow ?_
  | with_reducible refine x_gt ?_
  | with_reducible refine x_ge ?_
  | with_reducible refine x_le ?_
  | with_reducible refine x_neg ?_
  | with_reducible refine s_retN ?_
  | with_reducible refine s_raise ?_
  | with_reducible refine s_brk ?_
  | with_reducible refine s_ct ?_
  | with_reducible refine le_le ?_
  | with_reducible refine le_lt ?_
  | with_reducible refine o_no ?_
  | with_reducible refine tyes ?_
  | with_reducible refine x_l_lst ?_
  | with_reducible refine x_l_lc ?_
  | with_reducible refine x_l_list ?_
  | with_reducible refine x_l_sort ?_
  | with_reducible refine x_l_rev ?_
  | with_reducible refine o_at ?_)
local macro_rules | `(tactic| walk_at "an") => `(tactic| first
  | refine ⟨trivial, ?_⟩
  | refine ⟨_, _, rfl, rfl, ?_⟩
  | refine bt ?_
  | refine bf ?_
  | refine nbt ?_
  | refine nbf ?_
  | refine ot ?_
  | refine of ?_
  | refine not_ ?_
  | refine nof ?_
  | refine ⟨true, _, rfl, ?_⟩
  | refine ⟨false, _, rfl, ?_⟩
  | refine .inl ⟨true, _, rfl, ?_⟩
  | refine .inl ⟨false, _, rfl, ?_⟩
  | refine ct ?_
  | refine cf ?_
  | refine ct' ?_
  | refine cf' ?_
  | (refine ⟨okd_int _, okd_int _, ?_⟩; rw [eqD_I]; try rw [dec_refl])
  | (refine ⟨okd_bl _, okd_bl _, ?_⟩; rw [eqD_B]; try rw [dec_refl]))
local macro_rules | `(tactic| walk_at "go") => `(tactic| repeat (first | walk_at "lp" | walk_at "an"))
theorem w_law_lo_is_whole (K : Fg) (E : XK) : OkD K (tabs K) E (F_law_lo_is_whole K) 3 0 (t_law_lo_is_whole K E) := by
  rintro ds P X ⟨d, a, b, rfl, hg, p⟩
  refine ⟨rfl, ?_⟩
  unfold t_law_lo_is_whole
  walk_at "go"
  refine ⟨dok_ty hg, bb (fun h => ?_) fun h => ?_⟩
  · walk_at "go"
    refine ⟨dok_ty hg, ?_⟩
    cases d <;> first | (cases h; done) | skip
    · exact ⟨_, rfl, bf p⟩
    · rename_i i
      refine ⟨_, rfl, bt ?_⟩
      walk_at "go"
      refine ⟨fun h1 => ?_, fun h1 => ?_⟩
      · walk_at "go"
        refine ⟨_, rfl, ?_⟩
        rw [btw_int, h1] at p
        exact p
      · rw [btw_int, h1] at p
        exact p
  · cases d <;> first | exact p | cases h
theorem filt_nil {α : Type} {f : α → Bool} {l : List α} : (l.filter fun x => !f x) = [] ↔ l.all f = true := by
  rw [List.filter_eq_nil_iff, List.all_eq_true]
  constructor
  · intro h x hx; simpa using h x hx
  · intro h x hx; simp [h x hx]
theorem dec_filt {α : Type} {f : α → Bool} {l : List α} {h : α → Dt} : decide (((l.filter fun x => !f x).map h) = []) = l.all f := by
  cases e : l.all f with
  | true => exact decide_eq_true (List.map_eq_nil_iff.mpr (filt_nil.mpr e))
  | false => exact decide_eq_false fun z => by rw [filt_nil.mp (List.map_eq_nil_iff.mp z)] at e; cases e
theorem sign_ok {s : Str} {c : Nat} (h : strOkB s = true) (hc : c ∈ s.cps.toList) : strOkB ⟨#[c]⟩ = true := by
  have h1 : PyData.strOk s = true := by
    have := (ba2 h).1
    rwa [PyData.canLay0.eq_4] at this
  unfold PyData.strOk at h1
  have h2 := Array.all_eq_true'.mp h1 c (Array.mem_toList_iff.mp hc)
  unfold strOkB
  rw [PyData.canLay0.eq_4]
  unfold PyData.strOk
  simp only [Bool.and_eq_true]
  refine ⟨?_, decide_eq_true (show 1 ≤ 100000 by decide)⟩
  simpa using h2
theorem okd_nilL : Okd (.lst []) := (dok_lst (n := 1) (S := []) (fun _ z => nomatch z) (by decide) (by decide)).1
theorem okd_nilT : Okd (.tup []) := (dok_tup (n := 1) (S := []) (fun _ z => nomatch z) (by decide) (by decide)).1
theorem w_law_lo_is_name {K : Fg} (k : KF K) (E : XK) : OkD K (tabs K) E (F_law_lo_is_name K) 2 1 (t_law_lo_is_name K E) := by
  rintro ds P X ⟨d, rfl, hg, p⟩
  refine ⟨rfl, ?_⟩
  unfold t_law_lo_is_name
  show SW K _ E X _ [.val d, .emp] _ _ _ _
  walk_at "go"
  refine ⟨dok_ty hg, nob (fun h => ?_) fun h => ?_⟩
  · obtain ⟨s, rfl⟩ : ∃ s, d = .str s := by cases d <;> first | exact ⟨_, rfl⟩ | cases h
    walk_at "go"
    refine .inr ⟨s, rfl, dok_slen hg, ?_⟩
    walk_at "go"
    refine ⟨fun h1 => ?_, fun h1 => ?_⟩
    · walk_at "go"
      refine ⟨_, rfl, nbb (fun h2 => ?_) fun h2 => ?_⟩
      · rw [nm_str, h2, Bool.and_false, Bool.false_and] at p
        walk_at "go"
        exact p
      · refine s_next ?_
        refine s_ret ?_
        refine x_eq ?_
        refine EX.eb (x_l (l_filt (f := fun c : Nat => .str ⟨#[c]⟩) (h := fun c => .str ⟨#[c]⟩) (pb := fun c => !decide (c ∈ letters.cps.toList)) rfl ?_))
        walk_at "go"
        refine .inr ⟨s, rfl, s.cps.toList, rfl, by rw [Array.length_toList]; exact dok_slen hg, fun c hc => ?_, ?_⟩
        · refine p_name (by simp) rfl ?_
          refine t_test (x_ninS ?_)
          walk_at "go"
          refine ⟨_, rfl, rfl, fun _ => ?_⟩
          walk_at "go"
          rfl
        · have okl : Okd (.lst ((s.cps.toList.filter fun c => !decide (c ∈ letters.cps.toList)).map fun c => .str ⟨#[c]⟩)) := by
            refine (dok_lst (n := 1) (fun d hd => ?_) ?_ (by decide)).1
            · obtain ⟨c, hc, rfl⟩ := List.mem_map.mp hd
              exact dok_str (sign_ok (dok_strl hg) (List.mem_filter.mp hc).1)
            · rw [List.length_map]
              have h1 := List.length_filter_le (fun c => !decide (c ∈ letters.cps.toList)) s.cps.toList
              have h2 : s.length ≤ 100000 := of_decide_eq_true hg.2.1
              have h3 : s.cps.toList.length = s.length := Array.length_toList
              omega
          walk_at "go"
          refine ⟨small (by decide), okl, okd_nilL, ?_⟩
          rw [eqD_nil, dec_filt]
          rw [nm_str, h1, h2] at p
          exact p
    · rw [nm_str, h1, Bool.false_and, Bool.false_and] at p
      walk_at "go"
      exact p
  · walk_at "go"
    cases d <;> first | exact p | cases h
def pr4 : List Str := ["plus", "less", "same", "if"]
theorem okd_pr4 : Okd (.lst (pr4.map .str)) := (dok_lst (n := 1) (S := pr4.map .str) (fun d hd => by
  obtain ⟨s, hs, rfl⟩ := List.mem_map.mp hd
  have : strOkB s = true := by
    have h : ∀ s ∈ pr4, strOkB s = true := by decide +kernel
    exact h s hs
  exact dok_str this) (by decide) (by decide)).1
theorem any_pr4 {s : Str} : (pr4.any fun t => isS (.str s) t) = decide (s = "plus" ∨ s = "less" ∨ s = "same" ∨ s = "if") := by
  show ((decide (s = "plus") || (decide (s = "less") || (decide (s = "same") || (decide (s = "if") || false))))) = _
  simp
theorem w_law_lo_arms {K : Fg} (k : KF K) (E : XK) : OkD K (tabs K) E (F_law_lo_arms K) 1 0 (t_law_lo_arms K E) := by
  rintro ds P X ⟨d, a, rfl, hg, hf, p⟩
  refine ⟨rfl, ?_⟩
  unfold t_law_lo_arms
  walk_at "go"
  refine ⟨dok_ty hg, ?_⟩
  cases d with
  | tup l =>
    obtain ⟨s, r, rfl, hc, hl⟩ := form_tup hf
    have g0 : Gd (.str s) := dok_parts (b := false) hg List.mem_cons_self
    rw [inn_str] at p
    walk_at "go"
    refine x_in ?_
    walk_at "go"
    refine ⟨false, _, 0, 0, .str s, rfl, rfl, ixN_of (k := 0) (by simp), rfl, ?_⟩
    walk_at "go"
    refine ⟨small (by show 4 ≤ 100000; decide), pr4.map .str, .inr rfl, g0.1, okd_pr4, ?_⟩
    rw [any_strs, any_pr4]
    refine bb (fun h => ?_) fun h => ?_
    · have h := of_decide_eq_true h
      have hc' : s ≠ "call" := by rcases h with rfl | rfl | rfl | rfl <;> decide
      rw [if_neg hc', if_pos h] at p
      walk_at "lp"
      refine x_l (l_list (EX.eb (x_slT ?_)))
      walk_at "go"
      refine ⟨_, rfl, ?_⟩
      walk_at "go"
      refine ⟨_, rfl, ?_⟩
      rw [cut_tail]
      exact ⟨false, r, rfl, p⟩
    · have h := of_decide_eq_false h
      walk_at "go"
      refine ⟨false, _, 0, 0, .str s, rfl, rfl, ixN_of (k := 0) (by simp), rfl, ?_⟩
      walk_at "go"
      refine ⟨g0.1, okd_str (by decide +kernel), ?_⟩
      rw [eqD_S]
      refine bb (fun h1 => ?_) fun h1 => ?_
      · have h1 := of_decide_eq_true h1
        obtain ⟨x, as, rfl, h2, _⟩ := hc h1
        rw [if_pos h1] at p
        walk_at "go"
        exact ⟨false, _, 2, 2, .tup as, rfl, rfl, rfl, rfl, false, as, rfl, p⟩
      · have h1 := of_decide_eq_false h1
        rw [if_neg h1, if_neg h] at p
        walk_at "go"
        exact ⟨small (by decide), p⟩
  | _ =>
    walk_at "go"
    exact ⟨small (by decide), p⟩
theorem w_law_lo_size (n : Nat) (K : Fg) (E : XK) : OkD K (tabs K) E (F_law_lo_size (n + 1) K) 2 1 (t_law_lo_size n K E) := by
  rintro ds P X ⟨d, a, rfl, hg, hf, hn, p⟩
  refine ⟨rfl, ?_⟩
  unfold t_law_lo_size sp_law_lo_arms sp_law_lo_size
  show SW K _ E X _ [.val d, .emp] _ _ _ _
  rw [frm_s, Bool.and_eq_true] at hf
  have h3 := inn_len hf.1
  walk_at "lp"
  refine x_add (x_int (x_sum (EX.eb (x_l (l_map (f := id) (h := fun x => .int (szT n x : Nat)) rfl ?_)))))
  walk_at "go"
  refine ⟨d, a, rfl, hg, hf.1, .inl ⟨true, _, rfl, innD d, (List.map_id _).symm, small (by omega), fun x hx => ?_, (innD d).map fun x => ((szT n x : Nat) : Int), by rw [List.map_map]; rfl, fun m hm => ?_, by rw [List.length_map]; omega, _, _, rfl, rfl, ?_⟩⟩
  · refine p_name (by simp) rfl ?_
    walk_at "go"
    have hx' := List.all_eq_true.mp hf.2 x hx
    cases n with
    | zero => cases hx'
    | succ n => exact ⟨x, a, rfl, dok_mono (form_mem (a := a) hg hx) (by decide), hx', by omega, rfl⟩
  · obtain ⟨x, hx, rfl⟩ := List.mem_map.mp hm
    have h1 := sz_le n x (List.all_eq_true.mp hf.2 x hx)
    have h2 : 3 ^ n ≤ 3 ^ 24 := Nat.pow_le_pow_right (by decide) (by omega)
    have h3 : (3 : Nat) ^ 24 = 282429536481 := by decide
    omega
  · have e : ((1 : Int) + ((innD d).map fun x => ((szT n x : Nat) : Int)).sum) = ((szT (n + 1) d : Nat) : Int) := by
      rw [sz_s]
      have : ∀ l : List Dt, (l.map fun x => ((szT n x : Nat) : Int)).sum = (((l.map (szT n)).sum : Nat) : Int) := by
        intro l
        induction l with
        | nil => rfl
        | cons y l ih => rw [List.map_cons, List.sum_cons, ih, List.map_cons, List.sum_cons]; push_cast; rfl
      rw [this]; push_cast; rfl
    rw [e]
    exact p
theorem w_law_lo_depth (n : Nat) (K : Fg) (E : XK) : OkD K (tabs K) E (F_law_lo_depth (n + 1) K) 3 2 (t_law_lo_depth n K E) := by
  rintro ds P X ⟨d, a, rfl, hg, hf, hn, p⟩
  refine ⟨rfl, ?_⟩
  unfold t_law_lo_depth sp_law_lo_arms sp_law_lo_depth
  show SW K _ E X _ [.val d, .emp, .emp] _ _ _ _
  rw [frm_s, Bool.and_eq_true] at hf
  walk_at "go"
  refine s_for ?_
  walk_at "go"
  refine ⟨d, a, rfl, hg, hf.1, .inl ⟨true, _, rfl, fun i Γ' => ∃ e, Γ' = [.val d, .val (.int ((((innD d).take i).map (dpT n)).foldl max 0 : Nat)), e] ∧ noOwn Γ' 2 = true, [2], ⟨.emp, rfl, rfl⟩, fun i x Γ' hd iv => ?_, fun Γ' iv => ?_⟩⟩
  · obtain ⟨e, rfl, n2⟩ := iv
    have hm := List.mem_of_getElem? hd
    refine g_p (p_name (by simp) n2 ?_)
    walk_at "go"
    refine ⟨_, rfl, ?_⟩
    walk_at "go"
    have hx' := List.all_eq_true.mp hf.2 x hm
    cases n with
    | zero => cases hx'
    | succ n =>
      refine ⟨x, a, rfl, dok_mono (form_mem (a := a) hg hm) (by decide), hx', by omega, ?_⟩
      refine ⟨_, rfl, _, _, rfl, rfl, .val x, ?_, rfl⟩
      have e1 : ((((innD d).take (i + 1)).map (dpT (n + 1))).foldl max 0) = max ((((innD d).take i).map (dpT (n + 1))).foldl max 0) (dpT (n + 1) x) := by
        rw [List.take_add_one, hd, List.map_append, List.foldl_append]; rfl
      generalize (((innD d).take i).map (dpT (n + 1))).foldl max 0 = m at e1 ⊢
      have e2 : (if ((dpT (n + 1) x : Nat) : Int) > (m : Nat) then ((dpT (n + 1) x : Nat) : Int) else (m : Nat)) = ((max m (dpT (n + 1) x) : Nat) : Int) := by
        split <;> omega
      rw [e1, ← e2]
      rfl
  · obtain ⟨e, rfl, n2⟩ := iv
    rw [List.take_length]
    walk_at "lp"
    refine x_add ?_
    walk_at "go"
    have e : ((1 : Int) + ((((innD d).map (dpT n)).foldl max 0 : Nat))) = ((dpT (n + 1) d : Nat) : Int) := by rw [dp_s]; push_cast; rfl
    rw [e]
    exact p
end Lp.Q

set_option Elab.async false
set_option linter.all false
set_option maxRecDepth 100000
set_option maxHeartbeats 4000000
/-! k04W7: the law's own word of what is a term. Own work. -/
namespace Lp.Q
open PySem PySem.Spec PyProof.Rows L2 LamX Lp
local macro_rules | `(tactic| walk_at "lp") => `(tactic| first
  | with_reducible refine s_seq ?_
  | with_reducible refine s_if ?_
  | with_reducible refine s_ret ?_
  | with_reducible refine s_next ?_
  | with_reducible refine s_asg ?_
  | with_reducible refine t_test ?_
  | with_reducible refine t_val ?_
  | with_reducible refine t_and ?_
  | with_reducible refine t_or ?_
  | with_reducible refine t_not ?_
  | ((with_reducible apply x_var); (focus rfl))
  | with_reducible refine x_non ?_
  | with_reducible refine x_bl ?_
  | with_reducible refine x_int ?_
  | with_reducible refine x_str ?_
  | with_reducible refine x_and ?_
  | with_reducible refine x_or ?_
  | with_reducible refine x_not ?_
  | with_reducible refine x_if ?_
  | with_reducible refine x_isInt ?_
  | with_reducible refine x_isBool ?_
  | with_reducible refine x_isStr ?_
  | with_reducible refine x_isTup ?_
  | with_reducible refine x_isLst ?_
  | with_reducible refine x_isDct ?_
  | ((with_reducible refine x_isObj ?_ ?_); (focus (simp [Cs])))
  | with_reducible refine x_isi2 ?_
  | with_reducible refine x_len ?_
  | with_reducible refine x_eq ?_
  | with_reducible refine x_ne ?_
  | with_reducible refine x_ix ?_
  | with_reducible refine x_fld ?_
  | with_reducible refine x_tup ?_
  | with_reducible refine x_call ?_
  | with_reducible refine x_make ?_
  | with_reducible refine x_meth ?_
  | with_reducible refine x_makeN ?_
  | with_reducible refine x_callP ?_
  | with_reducible refine x_makeP ?_
  | with_reducible refine x_makeNP ?_
  | with_reducible refine x_sum ?_
  | with_reducible refine i_rng3 ?_
  | with_reducible refine x_methP ?_
  | ((with_reducible apply x_callJ); (focus rfl))
  | with_reducible refine a_cons ?_
  | with_reducible refine a_nil ?_
  | ((with_reducible apply b_own); (focus rfl))
  | ((with_reducible apply b_var); (focus rfl))
  | with_reducible refine EX.eb ?_
  | with_reducible refine l_list ?_
  | with_reducible refine l_lst ?_
  | with_reducible refine l_revL ?_
  | with_reducible refine l_sortS ?_
  | with_reducible refine i_u ?_
  | with_reducible refine i_rng1 ?_
  | with_reducible refine i_rng2 ?_
  | with_reducible refine i_enum ?_
  | with_reducible refine x_isNB ?_
  | with_reducible refine x_notNB ?_
  | with_reducible refine x_tuple ?_
  | with_reducible refine x_int1 ?_
  | with_reducible refine x_bool1 ?_
  | with_reducible refine x_str1 ?_
  | with_reducible refine x_max2 ?_
  | with_reducible refine x_sub ?_
  | with_reducible refine x_mod ?_
  | with_reducible refine x_fdiv ?_
  | with_reducible refine x_pow ?_
  | with_reducible refine x_gt ?_
  | with_reducible refine x_ge ?_
  | with_reducible refine x_le ?_
  | with_reducible refine x_neg ?_
  | with_reducible refine s_retN ?_
  | with_reducible refine s_raise ?_
  | with_reducible refine s_brk ?_
  | with_reducible refine s_ct ?_
  | with_reducible refine le_le ?_
  | with_reducible refine le_lt ?_
  | with_reducible refine o_no ?_
  | with_reducible refine tyes ?_
  | with_reducible refine x_l_lst ?_
  | with_reducible refine x_l_lc ?_
  | with_reducible refine x_l_list ?_
  | with_reducible refine x_l_sort ?_
  | with_reducible refine x_l_rev ?_
  | with_reducible refine o_at ?_)
local macro_rules | `(tactic| walk_at "an") => `(tactic| first
  | refine ⟨trivial, ?_⟩
  | refine ⟨_, _, rfl, rfl, ?_⟩
  | refine bt ?_
  | refine bf ?_
  | refine nbt ?_
  | refine nbf ?_
  | refine ot ?_
  | refine of ?_
  | refine not_ ?_
  | refine nof ?_
  | refine ⟨true, _, rfl, ?_⟩
  | refine ⟨false, _, rfl, ?_⟩
  | refine .inl ⟨true, _, rfl, ?_⟩
  | refine .inl ⟨false, _, rfl, ?_⟩
  | refine ct ?_
  | refine cf ?_
  | refine ct' ?_
  | refine cf' ?_
  | (refine ⟨okd_int _, okd_int _, ?_⟩; rw [eqD_I]; try rw [dec_refl])
  | (refine ⟨okd_bl _, okd_bl _, ?_⟩; rw [eqD_B]; try rw [dec_refl]))
local macro_rules | `(tactic| walk_at "go") => `(tactic| repeat (first | walk_at "lp" | walk_at "an"))
/-- all arms are formed: the comprehension of those that are not is empty -/
theorem arms_ok {K : Fg} {E : XK} {X : XP} {n : Nat} {a e : Int} {Γ : List Ent} {ti : TI} {as : List Dt} {P : Dt → Prop} (h1 : Γ[1]? = some (.val (.int a))) (h2 : Γ[2]? = some (.val (.int e))) (hn6 : noOwn Γ 6 = true) (hl : 6 < Γ.length)
    (hi : EI K (tabs K) E X ti Γ fun ds => ds = as) (ha : ∀ x ∈ as, dOk n x) (hal : as.length ≤ 1000) (hn : n + 1 < 24) (he : ((n + 1 : Nat) : Int) < e) (p : P (.bl (as.all (frmB (n + 1) a)))) :
    EX K (tabs K) E X (tOp (uEq K) (tLc ti (gName 6) (tNot (tB (tCall (spD K (tabs K) (F_law_lo_is_formed (n + 1) K)) [] eN (tCons (tVar 6) (tCons (tVar 1) (tCons (tOp uSub (tVar 2) (tC (.int 1))) tNil)))))) (tVar 6) [6]) (tLst tNil)) Γ P := by
  refine x_eq (EX.eb (x_l (l_filt (f := id) (h := id) (pb := fun x => !frmB (n + 1) a x) (by simp [hn6]) ?_)))
  refine fun S0 J σ H r xo R q => hi S0 J σ H r xo R fun I ds H1 ed => q I ds H1 ⟨as, by rw [ed, List.map_id], small (by omega), fun x hx => ?_, ?_⟩
  · have w6 : (wipeG Γ [6])[1]? = some (.val (.int a)) := by
      show (Γ.set 6 .emp)[1]? = _
      rw [List.getElem?_set_ne (by decide)]; exact h1
    have w62 : (wipeG Γ [6])[2]? = some (.val (.int e)) := by
      show (Γ.set 6 .emp)[2]? = _
      rw [List.getElem?_set_ne (by decide)]; exact h2
    have nw : noOwn (wipeG Γ [6]) 6 = true := by
      show noOwn (Γ.set 6 .emp) 6 = true
      exact noOwn_set hn6
    refine p_name (by simp) nw ?_
    have g6 : ((wipeG Γ [6]).set 6 (.val (id x)))[6]? = some (.val x) := by
      rw [List.getElem?_set_self (by show 6 < (Γ.set 6 .emp).length; rw [List.length_set]; exact hl)]; rfl
    have g1 : ((wipeG Γ [6]).set 6 (.val (id x)))[1]? = some (.val (.int a)) := by
      rw [List.getElem?_set_ne (by decide)]; exact w6
    have g2 : ((wipeG Γ [6]).set 6 (.val (id x)))[2]? = some (.val (.int e)) := by
      rw [List.getElem?_set_ne (by decide)]; exact w62
    refine t_not (t_val (x_callP (a_cons (x_var g6 (a_cons (x_var g1 (a_cons (x_sub (x_var g2 (x_int ⟨_, _, rfl, rfl, a_nil ?_⟩))))))))))
    refine ⟨x, a, e - 1, rfl, ha x hx, by omega, by push_cast at he; omega, _, rfl, rfl, fun _ => x_var g6 rfl⟩
  · have okl : Okd (.lst ((as.filter fun x => !frmB (n + 1) a x).map id)) := (dok_lst (n := 40) (fun d hd => by
      rw [List.map_id] at hd
      exact dok_mono (ha d (List.mem_filter.mp hd).1) (by omega)) (by
        rw [List.map_id]
        have := List.length_filter_le (fun x => !frmB (n + 1) a x) as
        omega) (by decide)).1
    refine EX.eb (x_l (l_lst (a_nil ⟨small (by decide), okl, okd_nilL, ?_⟩)))
    rw [eqD_nil, dec_filt]
    exact p
theorem w_law_lo_is_formed (n : Nat) (K : Fg) (E : XK) : OkD K (tabs K) E (F_law_lo_is_formed (n + 1) K) 7 4 (t_law_lo_is_formed n K E) := by
  rintro ds P X ⟨d, a, e, rfl, hg, hn, he, p⟩
  refine ⟨rfl, ?_⟩
  unfold t_law_lo_is_formed sp_law_lo_is_whole sp_law_lo_is_name sp_law_lo_is_formed
  show SW K _ E X _ [.val d, .val (.int a), .val (.int e), .emp, .emp, .emp, .emp] _ _ _ _
  have gd : Gd d := dok_mono hg (by omega)
  walk_at "go"
  refine ⟨dok_ty gd, nbb (fun h => ?_) fun h => ?_⟩
  · rw [frm_nont h] at p
    walk_at "go"
    exact ⟨d, 0, 2, rfl, gd, p⟩
  obtain ⟨l, rfl⟩ : ∃ l, d = .tup l := by cases d <;> first | exact ⟨_, rfl⟩ | cases h
  obtain ⟨n, rfl⟩ : ∃ m, n = m + 1 := ⟨n - 1, by have := dok_pos (b := false) hg; omega⟩
  have hpt : ∀ x ∈ l, dOk n x := fun x hx => dok_part (b := false) hg hx
  have hll : l.length ≤ 100000 := dok_len (b := false) hg
  walk_at "go"
  refine ⟨small (by decide), gd.1, okd_nilT, ?_⟩
  rw [eqD_nilT]
  refine ob' (fun h1 => ?_) fun h1 => ?_
  rotate_left
  · have h1 := of_decide_eq_true h1
    subst h1
    rw [frm_s, form_odd (by intro s r z; cases z), Bool.false_and] at p
    walk_at "go"
    exact p
  match l, of_decide_eq_false h1 with
  | [], h => exact absurd rfl h
  | x :: r, _ =>
  have gx : Gd x := dok_mono (hpt x List.mem_cons_self) (by omega)
  walk_at "go"
  refine ⟨false, _, 0, 0, x, rfl, rfl, ixN_of (k := 0) (by simp), rfl, dok_ty gx, nob (fun h2 => ?_) fun h2 => ?_⟩
  rotate_left
  · rw [frm_s, form_odd (by intro s r' z; cases z; cases h2), Bool.false_and] at p
    walk_at "go"
    exact p
  obtain ⟨s, rfl⟩ : ∃ s, x = .str s := by cases x <;> first | exact ⟨_, rfl⟩ | cases h2
  walk_at "lp"
  refine x_ltV ?_
  walk_at "go"
  rw [decide_eq_false (show ¬ e < 1 by omega)]
  walk_at "go"
  refine s_par ?_
  walk_at "go"
  refine ⟨false, _, 0, 0, .str s, rfl, rfl, ixN_of (k := 0) (by simp), rfl, ?_⟩
  walk_at "go"
  refine ⟨_, _, rfl, ?_⟩
  have hs := gx.1
  have hm : ∀ (k : Nat), decide ((((Dt.str s :: r).length : Nat) : Int) = ((k + 1 : Nat) : Int)) = decide (r.length = k) := fun k => decide_eq_decide.mpr (by rw [List.length_cons]; omega)
  have hpr : ∀ x ∈ r, dOk n x := fun x hx => hpt x (List.mem_cons_of_mem _ hx)
  rw [List.length_cons] at hll
  generalize hM : (((Dt.str s :: r).length : Nat) : Int) = M at hm ⊢
  rw [frm_s, form_str, inn_str] at p
  walk_at "go"
  refine ⟨hs, okd_str (by decide +kernel), ?_⟩
  rw [eqD_S]
  refine bb (fun h3 => ?_) fun h3 => ?_
  · have h3 := of_decide_eq_true h3
    rw [if_pos h3, if_neg (by rw [h3]; decide), if_neg (by rw [h3]; decide), List.all_nil, Bool.and_true] at p
    walk_at "go"
    rw [show ((1 : Int)) = ((0 + 1 : Nat) : Int) from rfl, hm 0]
    exact p
  have h3 := of_decide_eq_false h3
  rw [if_neg h3] at p
  walk_at "go"
  refine ⟨hs, okd_str (by decide +kernel), ?_⟩
  rw [eqD_S]
  refine bb (fun h4 => ?_) fun h4 => ?_
  · have h4 := of_decide_eq_true h4
    rw [if_pos h4, if_neg (by rw [h4]; decide), if_neg (by rw [h4]; decide), List.all_nil, Bool.and_true] at p
    walk_at "go"
    rw [show ((2 : Int)) = ((1 + 1 : Nat) : Int) from rfl, hm 1]
    refine bb (fun h5 => ?_) fun h5 => ?_
    · rw [h5, Bool.true_and] at p
      match r, of_decide_eq_true h5 with
      | [y], _ =>
      walk_at "go"
      refine ⟨false, _, 1, 1, y, rfl, rfl, rfl, rfl, ?_⟩
      walk_at "go"
      exact ⟨y, 0, a - 1, rfl, dok_mono (hpr y (by simp)) (by omega), p⟩
    · rw [h5, Bool.false_and] at p
      exact p
  have h4 := of_decide_eq_false h4
  rw [if_neg h4] at p
  walk_at "go"
  refine ⟨hs, okd_str (by decide +kernel), ?_⟩
  rw [eqD_S]
  refine bb (fun h5 => ?_) fun h5 => ?_
  · have h5 := of_decide_eq_true h5
    rw [if_pos h5, if_neg (by rw [h5]; decide), if_neg (by rw [h5]; decide), List.all_nil, Bool.and_true] at p
    walk_at "go"
    rw [show ((2 : Int)) = ((1 + 1 : Nat) : Int) from rfl, hm 1]
    refine bb (fun h6 => ?_) fun h6 => ?_
    · rw [h6, Bool.true_and] at p
      match r, of_decide_eq_true h6 with
      | [y], _ =>
      walk_at "go"
      refine ⟨false, _, 1, 1, y, rfl, rfl, rfl, rfl, ?_⟩
      walk_at "go"
      exact ⟨y, rfl, dok_mono (hpr y (by simp)) (by omega), p⟩
    · rw [h6, Bool.false_and] at p
      exact p
  have h5 := of_decide_eq_false h5
  rw [if_neg h5] at p
  walk_at "go"
  refine x_in ?_
  walk_at "go"
  refine ⟨small (by show 4 ≤ 100000; decide), pr4.map .str, .inr rfl, hs, okd_pr4, ?_⟩
  rw [any_strs, any_pr4]
  refine bb (fun h6 => ?_) fun h6 => ?_
  · have h6 := of_decide_eq_true h6
    have hc : s ≠ "call" := by rcases h6 with rfl | rfl | rfl | rfl <;> decide
    rw [if_neg hc, if_neg hc, if_pos h6] at p
    walk_at "go"
    refine ⟨hs, okd_str (by decide +kernel), ?_⟩
    rw [eqD_S]
    have fin : ∀ (N : List Ent → Prop) (B C : List Ent → Prop) (w : Nat), w ≤ 3 → P (.val (.bl (decide (r.length = w) && r.all (frmB (n + 1) a)))) → SW K (tabs K) E X (tRet (tAndV (tOp (uEq K) (tVar 4) (tVar 5)) (tOp (uEq K) (tLc (iU K (tSl (uSl K) (tVar 0) (tPart (tC (.int 1))) tNoPart)) (gName 6) (tNot (tB (tCall (spD K (tabs K) (F_law_lo_is_formed (n + 1) K)) [] eN (tCons (tVar 6) (tCons (tVar 1) (tCons (tOp uSub (tVar 2) (tC (.int 1))) tNil)))))) (tVar 6) [6]) (tLst tNil))))
        [.val (.tup (.str s :: r)), .val (.int a), .val (.int e), .val (.str s), .val (.int M), .val (.int ((w + 1 : Nat))), .emp] N (fun r x => P r) B C := fun N B C w hw pw => by
      walk_at "go"
      rw [hm w]
      refine bb (fun h7 => ?_) fun h7 => ?_
      · rw [h7, Bool.true_and] at pw
        refine arms_ok (as := r) rfl rfl rfl (by simp) ?_ hpr ?_ hn he pw
        · refine i_u (x_slT ?_)
          walk_at "go"
          refine ⟨_, rfl, ?_⟩
          walk_at "go"
          refine ⟨_, rfl, .inl ⟨false, r, by rw [cut_tail]; rfl, rfl⟩⟩
        · have := of_decide_eq_true h7
          omega
      · rw [h7, Bool.false_and] at pw
        exact pw
    refine bb (fun h7 => ?_) fun h7 => ?_
    · have h7 := of_decide_eq_true h7
      rw [if_neg (by rw [h7]; decide), if_pos h7] at p
      refine x_int ?_
      exact fin _ _ _ 3 (by decide) p
    · have h7 := of_decide_eq_false h7
      rw [if_pos (by simpa [h7] using h6)] at p
      refine x_int ?_
      exact fin _ _ _ 2 (by decide) p
  have h6 := of_decide_eq_false h6
  have h6' : ¬ (s = "plus" ∨ s = "less" ∨ s = "same") := fun z => h6 (by rcases z with z | z | z <;> simp [z])
  have h6i : s ≠ "if" := fun z => h6 (by simp [z])
  walk_at "go"
  refine ⟨hs, okd_str (by decide +kernel), ?_⟩
  rw [eqD_S]
  refine ob' (fun h7 => ?_) fun h7 => ?_
  rotate_left
  · have h7 : s ≠ "call" := by simpa using h7
    rw [if_neg h7, if_neg h6', if_neg h6i, Bool.false_and] at p
    walk_at "go"
    exact p
  have h7 : s = "call" := by simpa using h7
  rw [if_pos h7, if_pos h7] at p
  walk_at "go"
  rw [show ((3 : Int)) = ((2 + 1 : Nat) : Int) from rfl, hm 2]
  refine ob' (fun h8 => ?_) fun h8 => ?_
  rotate_left
  · rw [show decide (r.length = 2) = false by simpa using h8, Bool.false_and, Bool.false_and] at p
    walk_at "go"
    exact p
  have h8 : decide (r.length = 2) = true := by simpa using h8
  rw [h8, Bool.true_and] at p
  match r, of_decide_eq_true h8 with
  | [y, z], _ =>
  have gz : Gd z := dok_mono (hpr z (by simp)) (by omega)
  have p : P (.val (.bl ((isNmB y && isTupLe z 2) && (match z with | .tup as => as | _ => []).all (frmB (n + 1) a)))) := p
  walk_at "go"
  refine ⟨false, _, 1, 1, y, rfl, rfl, rfl, rfl, ?_⟩
  walk_at "go"
  refine ⟨y, rfl, dok_mono (hpr y (by simp)) (by omega), nbb (fun h9 => ?_) fun h9 => ?_⟩
  · rw [h9, Bool.false_and, Bool.false_and] at p
    walk_at "go"
    exact p
  rw [h9, Bool.true_and] at p
  walk_at "go"
  refine ⟨false, _, 2, 2, z, rfl, rfl, rfl, rfl, dok_ty gz, nob (fun h10 => ?_) fun h10 => ?_⟩
  rotate_left
  · have : isTupLe z 2 = false := by cases z <;> first | rfl | cases h10
    rw [this, Bool.false_and] at p
    walk_at "go"
    exact p
  obtain ⟨as, rfl⟩ : ∃ as, z = .tup as := by cases z <;> first | exact ⟨_, rfl⟩ | cases h10
  walk_at "go"
  refine ⟨false, _, 2, 2, .tup as, rfl, rfl, rfl, rfl, .inl ⟨false, as, rfl, ?_⟩⟩
  walk_at "go"
  have e2 : decide ((2 : Int) < (as.length : Nat)) = !isTupLe (.tup as) 2 := by
    show _ = !decide (as.length ≤ 2)
    rw [← decide_not]; exact decide_eq_decide.mpr (by omega)
  rw [e2]
  refine bb (fun h11 => ?_) fun h11 => ?_
  · rw [show isTupLe (.tup as) 2 = false by simpa using h11, Bool.false_and] at p
    walk_at "go"
    exact p
  have h11 : isTupLe (.tup as) 2 = true := by simpa using h11
  rw [h11, Bool.true_and] at p
  have hal : as.length ≤ 2 := of_decide_eq_true h11
  walk_at "lp"
  walk_at "lp"
  refine arms_ok (as := as) rfl rfl rfl (by simp) ?_ (fun x hx => dok_mono (dok_partN (b := false) (hpr (.tup as) (by simp)) hx) (by omega)) (by omega) hn he p
  refine i_u ?_
  walk_at "go"
  exact ⟨false, _, 2, 2, .tup as, rfl, rfl, rfl, rfl, .inl ⟨false, as, rfl, rfl⟩⟩
theorem w_law_lo_is_term {K : Fg} (k : KF K) (E : XK) : OkD K (tabs K) E (F_law_lo_is_term K) 2 0 (t_law_lo_is_term K E) := by
  rintro ds P X ⟨d, a, rfl, hg, p⟩
  refine ⟨rfl, ?_⟩
  unfold t_law_lo_is_term sp_law_lo_is_formed sp_law_lo_size sp_law_lo_depth
  show SW K _ E X _ [.val d, .val (.int a)] _ _ _ _
  have gd : Gd d := dok_mono hg (by decide)
  rw [← law_term] at p
  walk_at "go"
  refine ⟨d, a, 99, rfl, hg, by decide, by decide, bb (fun h => ?_) fun h => ?_⟩
  · rw [h, Bool.true_and] at p
    walk_at "go"
    refine ⟨d, a, rfl, gd, h, by decide, ?_⟩
    walk_at "go"
    have e1 : decide (((szT 24 d : Nat) : Int) ≤ 30) = decide (szT 24 d ≤ 30) := decide_eq_decide.mpr (by omega)
    have e2 : decide (((dpT 24 d : Nat) : Int) ≤ 8) = decide (dpT 24 d ≤ 8) := decide_eq_decide.mpr (by omega)
    have h24 : frmB 24 a d = true := h
    show ∃ c, Dt.bl (decide (((szT 24 d : Nat) : Int) ≤ 30)) = .bl c ∧ _
    rw [e1]
    refine bb (fun h1 => ?_) fun h1 => ?_
    · rw [h1, Bool.true_and] at p
      walk_at "go"
      refine ⟨d, a, rfl, gd, h, by decide, ?_⟩
      walk_at "go"
      show P (.val (.bl (decide (((dpT 24 d : Nat) : Int) ≤ 8))))
      rw [e2]
      exact p
    · rw [h1, Bool.false_and] at p
      exact p
  · rw [h, Bool.false_and] at p
    exact p
theorem no_law_lo_is_formed {K : Fg} {vs : List V} {H : Hp} {Q : VK} {E : XK} (h : sp_law_lo_is_formed 0 K vs H Q E) : False := by
  obtain ⟨_, _, _, _, _, _, _, f, _⟩ := h
  exact f
theorem no_law_lo_size {K : Fg} {vs : List V} {H : Hp} {Q : VK} {E : XK} (h : sp_law_lo_size 0 K vs H Q E) : False := by
  obtain ⟨_, _, _, _, _, _, _, f, _⟩ := h
  exact f
theorem no_law_lo_depth {K : Fg} {vs : List V} {H : Hp} {Q : VK} {E : XK} (h : sp_law_lo_depth 0 K vs H Q E) : False := by
  obtain ⟨_, _, _, _, _, _, _, f, _⟩ := h
  exact f
end Lp.Q

set_option Elab.async false
set_option linter.all false
set_option maxRecDepth 100000
set_option maxHeartbeats 4000000
/-! k04W8: what the law owes and hears. Own work. -/
namespace Lp.Q
open PySem PySem.Spec PyProof.Rows L2 LamX Lp
local macro_rules | `(tactic| walk_at "lp") => `(tactic| first
  | with_reducible refine s_seq ?_
  | with_reducible refine s_if ?_
  | with_reducible refine s_ret ?_
  | with_reducible refine s_next ?_
  | with_reducible refine s_asg ?_
  | with_reducible refine t_test ?_
  | with_reducible refine t_val ?_
  | with_reducible refine t_and ?_
  | with_reducible refine t_or ?_
  | with_reducible refine t_not ?_
  | ((with_reducible apply x_var); (focus rfl))
  | with_reducible refine x_non ?_
  | with_reducible refine x_bl ?_
  | with_reducible refine x_int ?_
  | with_reducible refine x_str ?_
  | with_reducible refine x_and ?_
  | with_reducible refine x_or ?_
  | with_reducible refine x_not ?_
  | with_reducible refine x_if ?_
  | with_reducible refine x_isInt ?_
  | with_reducible refine x_isBool ?_
  | with_reducible refine x_isStr ?_
  | with_reducible refine x_isTup ?_
  | with_reducible refine x_isLst ?_
  | with_reducible refine x_isDct ?_
  | ((with_reducible refine x_isObj ?_ ?_); (focus (simp [Cs])))
  | with_reducible refine x_isi2 ?_
  | with_reducible refine x_len ?_
  | with_reducible refine x_eq ?_
  | with_reducible refine x_ne ?_
  | with_reducible refine x_ix ?_
  | with_reducible refine x_fld ?_
  | with_reducible refine x_tup ?_
  | with_reducible refine x_call ?_
  | with_reducible refine x_make ?_
  | with_reducible refine x_meth ?_
  | with_reducible refine x_makeN ?_
  | with_reducible refine x_callP ?_
  | with_reducible refine x_makeP ?_
  | with_reducible refine x_makeNP ?_
  | with_reducible refine x_sum ?_
  | with_reducible refine i_rng3 ?_
  | with_reducible refine x_methP ?_
  | ((with_reducible apply x_callJ); (focus rfl))
  | with_reducible refine a_cons ?_
  | with_reducible refine a_nil ?_
  | ((with_reducible apply b_own); (focus rfl))
  | ((with_reducible apply b_var); (focus rfl))
  | with_reducible refine EX.eb ?_
  | with_reducible refine l_list ?_
  | with_reducible refine l_lst ?_
  | with_reducible refine l_revL ?_
  | with_reducible refine l_sortS ?_
  | with_reducible refine i_u ?_
  | with_reducible refine i_rng1 ?_
  | with_reducible refine i_rng2 ?_
  | with_reducible refine i_enum ?_
  | with_reducible refine x_isNB ?_
  | with_reducible refine x_notNB ?_
  | with_reducible refine x_tuple ?_
  | with_reducible refine x_int1 ?_
  | with_reducible refine x_bool1 ?_
  | with_reducible refine x_str1 ?_
  | with_reducible refine x_max2 ?_
  | with_reducible refine x_sub ?_
  | with_reducible refine x_mod ?_
  | with_reducible refine x_fdiv ?_
  | with_reducible refine x_pow ?_
  | with_reducible refine x_gt ?_
  | with_reducible refine x_ge ?_
  | with_reducible refine x_le ?_
  | with_reducible refine x_neg ?_
  | with_reducible refine s_retN ?_
  | with_reducible refine s_raise ?_
  | with_reducible refine s_brk ?_
  | with_reducible refine s_ct ?_
  | with_reducible refine le_le ?_
  | with_reducible refine le_lt ?_
  | with_reducible refine o_no ?_
  | with_reducible refine tyes ?_
  | with_reducible refine x_l_lst ?_
  | with_reducible refine x_l_lc ?_
  | with_reducible refine x_l_list ?_
  | with_reducible refine x_l_sort ?_
  | with_reducible refine x_l_rev ?_
  | with_reducible refine o_at ?_)
local macro_rules | `(tactic| walk_at "an") => `(tactic| first
  | refine ⟨trivial, ?_⟩
  | refine ⟨_, _, rfl, rfl, ?_⟩
  | refine bt ?_
  | refine bf ?_
  | refine nbt ?_
  | refine nbf ?_
  | refine ot ?_
  | refine of ?_
  | refine not_ ?_
  | refine nof ?_
  | refine ⟨true, _, rfl, ?_⟩
  | refine ⟨false, _, rfl, ?_⟩
  | refine .inl ⟨true, _, rfl, ?_⟩
  | refine .inl ⟨false, _, rfl, ?_⟩
  | refine ct ?_
  | refine cf ?_
  | refine ct' ?_
  | refine cf' ?_
  | (refine ⟨okd_int _, okd_int _, ?_⟩; rw [eqD_I]; try rw [dec_refl])
  | (refine ⟨okd_bl _, okd_bl _, ?_⟩; rw [eqD_B]; try rw [dec_refl]))
local macro_rules | `(tactic| walk_at "go") => `(tactic| repeat (first | walk_at "lp" | walk_at "an"))
theorem w_law_lo_labels {K : Fg} (k : KF K) (E : XK) : OkD K (tabs K) E (F_law_lo_labels K) 0 0 (t_law_lo_labels K E) := by
  rintro ds P X ⟨rfl, p⟩
  refine ⟨rfl, ?_⟩
  unfold t_law_lo_labels
  refine s_retL ?_
  walk_at "go"
  exact ⟨small (by decide), p⟩
theorem dec_filt' {α : Type} {f : α → Bool} {l : List α} {h : α → Dt} : decide ((l.filter f).map h = []) = l.all fun x => !f x := by
  have := dec_filt (f := fun x => !f x) (l := l) (h := h)
  simpa using this
theorem seq_test {K : Fg} {T : Tbl} {E : XK} {X : XP} {Γ : List Ent} {d : Dt} {G : Bool → Prop} (h0 : Γ[0]? = some (.val d)) (ty : TyK (Cs K) d) (hf : isSeq d = false → G true) (ht : isSeq d = true → G false) :
    ET K T E X (tAnd (tNot (tB (tCB (rIsiU K (Cs K)) (tCons (tVar 0) (tCons (tC (.ty "list")) tNil))))) (tNot (tB (tCB (rIsiU K (Cs K)) (tCons (tVar 0) (tCons (tC (.ty "tuple")) tNil)))))) Γ G := by
  refine t_and (t_not (t_val (x_isLst (b_var h0 ⟨ty, nbb (fun h => ?_) fun h => ?_⟩))))
  · refine t_not (t_val (x_isTup (b_var h0 ⟨ty, ?_⟩)))
    cases d <;> first | (cases h; done) | (refine ⟨_, rfl, ?_⟩; first | exact hf rfl | exact ht rfl)
  · cases d <;> first | (cases h; done) | exact ht rfl
theorem w_law_is_writes {K : Fg} (k : KF K) (E : XK) : OkD K (tabs K) E (F_law_is_writes K) 4 3 (t_law_is_writes K E) := by
  rintro ds P X ⟨d, rfl, hw, p⟩
  refine ⟨rfl, ?_⟩
  unfold t_law_is_writes sp_law_lo_is_name
  show SW K _ E X _ [.val d, .emp, .emp, .emp] _ _ _ _
  have ty : TyK (Cs K) d := by
    rcases hw with h | h
    · exact dok_ty h
    · subst h; trivial
  refine s_seq (s_if (t_or (seq_test rfl ty (fun hq => ⟨fun z => (nomatch z), fun _ => ?_⟩) fun hq => ⟨fun _ => ?_, fun z => (nomatch z)⟩)))
  · have e : wrB d = false := by unfold wrB; rw [hq]; rfl
    rw [e] at p
    exact ⟨fun _ => by walk_at "go"; exact p, fun z => (nomatch z)⟩
  obtain ⟨b, l, rfl, _⟩ := seq_of hq
  have hg : Gd (sqD b l) := hw.resolve_right fun z => by cases b <;> cases z
  rw [wr_sq] at p
  have hlen := dok_len hg
  walk_at "go"
  refine .inl ⟨b, l, rfl, ?_⟩
  walk_at "go"
  have e3 : decide ((3 : Int) < (l.length : Nat)) = !decide (l.length ≤ 3) := by rw [← decide_not]; exact decide_eq_decide.mpr (by omega)
  rw [e3]
  refine bb (fun h1 => ?_) fun h1 => ?_
  · rw [show decide (l.length ≤ 3) = false by simpa using h1] at p
    walk_at "go"
    exact p
  have h1 : decide (l.length ≤ 3) = true := by simpa using h1
  have hl3 := of_decide_eq_true h1
  rw [h1, Bool.true_and] at p
  walk_at "go"
  refine s_for ?_
  walk_at "go"
  refine .inl ⟨b, l, rfl, fun i Γ' => ∃ e, Γ' = [.val (sqD b l), e, .emp, .emp] ∧ noOwn Γ' 1 = true ∧ ∀ x ∈ l.take i, rowB x = true, [1], ⟨.emp, rfl, rfl, fun _ z => by simp at z⟩, fun i x Γ' hd iv => ?_, fun Γ' iv => ?_⟩
  · obtain ⟨e, rfl, n1, ht⟩ := iv
    have hm := List.mem_of_getElem? hd
    have gx : Gd x := dok_parts hg hm
    have no : rowB x = false → l.all rowB = false := fun h => by
      cases ha : l.all rowB with
      | false => rfl
      | true => rw [List.all_eq_true.mp ha x hm] at h; cases h
    refine g_p (p_name (by simp) n1 ?_)
    walk_at "go"
    refine ⟨dok_ty gx, nob (fun h2 => ?_) fun h2 => ?_⟩
    rotate_left
    · rw [no (by cases x <;> first | rfl | cases h2)] at p
      walk_at "go"
      exact p
    obtain ⟨r, rfl⟩ : ∃ r, x = .tup r := by cases x <;> first | exact ⟨_, rfl⟩ | cases h2
    walk_at "go"
    refine ob' (fun h3 => ?_) fun h3 => ?_
    rotate_left
    · rw [no (by rw [row_tup, show decide (((r.length : Nat) : Int) = 2) = false by simpa using h3]; rfl)] at p
      walk_at "go"
      exact p
    have h3 : decide (((r.length : Nat) : Int) = 2) = true := by simpa using h3
    have e2 := of_decide_eq_true h3
    match r, e2 with
    | [], h => simp at h
    | [_], h => simp at h
    | _ :: _ :: _ :: _, h => simp at h; omega
    | [y, z], _ =>
    walk_at "go"
    refine ⟨false, _, 0, 0, y, rfl, rfl, rfl, rfl, ?_⟩
    walk_at "go"
    refine ⟨y, rfl, dok_parts (b := false) gx (by simp), nbb (fun h4 => ?_) fun h4 => ?_⟩
    · rw [no (by rw [row_tup]; show (_ && isNmB y) = false; rw [h4, Bool.and_false])] at p
      walk_at "go"
      exact p
    · walk_at "go"
      refine ⟨_, rfl, rfl, fun w hw => ?_⟩
      rw [List.take_add_one, hd] at hw
      rcases List.mem_append.mp hw with hw | hw
      · exact ht w hw
      · have : w = .tup [y, z] := by simpa using hw
        rw [this, row_tup]; show (_ && isNmB y) = true; rw [h4]; rfl
  · obtain ⟨e, rfl, n1, ht⟩ := iv
    rw [List.take_length] at ht
    rw [List.all_eq_true.mpr ht, Bool.true_and] at p
    have hr : ∀ x ∈ l, ∃ y z, x = .tup [y, z] ∧ isNmB y = true := fun x hx => row_at (ht x hx)
    refine s_seq (s_asg (x_l (l_map (f := id) (h := fun x => prt x 0) (by simp [n1]) ?_)))
    walk_at "go"
    refine .inl ⟨b, l, rfl, l, (List.map_id _).symm, small hlen, fun x hx => ?_, ?_⟩
    · obtain ⟨y, z, rfl, _⟩ := hr x hx
      have nw : noOwn (wipeG [.val (sqD b l), e, .emp, .emp] [1]) 1 = true := rfl
      refine p_name (by simp) nw ?_
      walk_at "go"
      exact ⟨false, _, 0, 0, y, rfl, rfl, rfl, rfl, rfl⟩
    · generalize hns : (l.map fun x => prt x 0) = ns at p ⊢
      have gn : ∀ x ∈ ns, Gd x := fun x hx => by
        rw [← hns] at hx
        obtain ⟨w, hw, rfl⟩ := List.mem_map.mp hx
        obtain ⟨y, z, rfl, _⟩ := hr w hw
        exact dok_parts (b := false) (dok_parts hg hw) (by simp [prt])
      have hnl : ns.length ≤ 3 := by rw [← hns, List.length_map]; exact hl3
      show SW K _ E X _ [.val (sqD b l), e, .val (.lst ns), .emp] _ _ _ _
      refine s_ret (x_eq (EX.eb (x_l (l_filt (f := fun i : Nat => .int (i : Nat)) (h := fun i : Nat => .int (i : Nat)) (pb := fun i => (ns.take i).any fun z => eqD z (ns.getD i .non)) rfl ?_))))
      walk_at "go"
      refine ⟨_, rfl, by omega, by omega, List.range ns.length, by rw [Int.toNat_natCast]; unfold rgD; congr 1; funext i; rw [Int.zero_add], small (by rw [List.length_range]; omega), fun i hi => ?_, ?_⟩
      · have hi := List.mem_range.mp hi
        have h0 : ns[i]? = some (ns.getD i .non) := by rw [List.getD_eq_getElem?_getD, List.getElem?_eq_getElem hi]; rfl
        refine p_name (by simp) rfl ?_
        refine t_test (x_in ?_)
        walk_at "go"
        refine ⟨true, ns, i, i, _, rfl, rfl, ixN_of hi, h0, ?_⟩
        refine EX.eb (x_l (l_sl ?_))
        walk_at "go"
        refine ⟨_, rfl, ns, rfl, ?_⟩
        rw [cut_take]
        refine ⟨ns.take i, .inr rfl, (gn _ (List.mem_of_getElem? h0)).1, (dok_lst (S := ns.take i) (fun x hx => gn x (List.mem_of_mem_take hx)) (by rw [List.length_take]; omega) (by decide)).1, _, rfl, rfl, fun _ => ?_⟩
        walk_at "go"
        rfl
      · have okl : Okd (.lst (((List.range ns.length).filter fun i => (ns.take i).any fun z => eqD z (ns.getD i .non)).map fun i : Nat => .int (i : Nat))) := by
          refine (dok_lst (n := 1) (fun d hd => ?_) ?_ (by decide)).1
          · obtain ⟨c, hc, rfl⟩ := List.mem_map.mp hd
            exact dok_int _
          · rw [List.length_map]
            have h1 := List.length_filter_le (fun i => (ns.take i).any fun z => eqD z (ns.getD i .non)) (List.range ns.length)
            rw [List.length_range] at h1
            omega
        walk_at "go"
        refine ⟨small (by decide), okl, okd_nilL, ?_⟩
        rw [eqD_nil, dec_filt']
        exact p
theorem w_law_is_refused {K : Fg} (k : KF K) (E : XK) : OkD K (tabs K) E (F_law_is_refused K) 5 2 (t_law_is_refused K E) := by
  rintro ds P X ⟨w, d, rfl, hw, hg, p⟩
  refine ⟨rfl, ?_⟩
  unfold t_law_is_refused
  show SW K _ E X _ [.val (.tup [.str w, d]), .val (.str w), .val d, .emp, .emp] _ _ _ _
  walk_at "lp"
  refine s_asgG (L := [3, 4]) ?_
  walk_at "go"
  refine g_p (p_tup rfl (ps_cons (p_name (by simp) rfl (ps_cons (p_name (by simp) rfl (ps_nil ?_))))))
  walk_at "go"
  refine ⟨okd_str hw, okd_str hw, ?_⟩
  rw [eqD_same (okd_str hw)]
  walk_at "go"
  refine ⟨dok_ty hg, ?_⟩
  walk_at "go"
  refine ⟨dok_ty hg, ?_⟩
  walk_at "go"
  cases hn : isNon d with
  | true =>
    cases d <;> first | cases hn | skip
    walk_at "go"
    exact p
  | false =>
    walk_at "go"
    refine ⟨hg.1, hg.1, ?_⟩
    rw [eqD_same hg.1]
    exact ⟨_, rfl, p⟩
theorem w_law_heard_term {K : Fg} (k : KF K) (E : XK) : OkD K (tabs K) E (F_law_heard_term K) 2 0 (t_law_heard_term K E) := by
  rintro ds P X ⟨d, a, rfl, hg, p⟩
  refine ⟨rfl, ?_⟩
  unfold t_law_heard_term sp_is_term
  show SW K _ E X _ [.val d, .val (.int a)] _ _ _ _
  walk_at "go"
  refine x_toldP fun E' => ?_
  show EX K _ E' noX _ [.val d, .val (.int a)] _
  walk_at "go"
  exact ⟨d, a, rfl, hg, p⟩
theorem refu_cls {n m r l w c : Dt} {z : Str} {x : Dt} (h : refu n m r l w c = some (z, x)) : z = "BadPart" ∨ z = "BadLabel" ∨ z = "BadTerm" := by
  unfold refu at h
  split at h; · cases h; exact .inl rfl
  split at h; · cases h; exact .inl rfl
  split at h; · cases h; exact .inr (.inl rfl)
  split at h; · cases h; exact .inr (.inr rfl)
  split at h; · cases h; exact .inl rfl
  split at h
  · cases h; exact .inr (.inr rfl)
  · split at h
    · cases h
    · cases h; exact .inl rfl
theorem hx_refu {K : Fg} (k : KF K) {P : Dt → Prop} {z : Str} {x : Dt} (hz : z = "BadPart" ∨ z = "BadLabel" ∨ z = "BadTerm") (p : P (.tup [.str z, x])) : HX K P (hL K) (He.ga K z) [(exF z, x)] := by
  rcases hz with rfl | rfl | rfl
  · refine ⟨false, k.exm_BadPart_BadLabel, fun z => (nomatch z), fun _ => ⟨true, k.exm_BadPart_BadPart, fun _ => ⟨rfl, x, by rw [exf1]; rfl, p⟩, fun z => (nomatch z)⟩⟩
  · exact ⟨true, k.exm_BadLabel_BadLabel, fun _ => ⟨rfl, x, by rw [exf2]; rfl, p⟩, fun z => (nomatch z)⟩
  · exact ⟨false, k.exm_BadTerm_BadLabel, fun z => (nomatch z), fun _ => ⟨false, k.exm_BadTerm_BadPart, fun z => (nomatch z), fun _ => ⟨true, k.exm_BadTerm_BadTerm, fun _ => ⟨rfl, x, by rw [exf3]; rfl, p⟩, fun z => (nomatch z)⟩⟩⟩
theorem w_law_heard_function {K : Fg} (k : KF K) (E : XK) : OkD K (tabs K) E (F_law_heard_function K) 7 6 (t_law_heard_function K E) := by
  rintro ds P X ⟨n, m, r, l, w, c, rfl, hs, p⟩
  refine ⟨rfl, ?_⟩
  unfold t_law_heard_function sp_Function___init
  show SW K _ E X _ [.val (.lst [n, m, r, l, w, c]), .emp, .emp, .emp, .emp, .emp, .emp] _ _ _ _
  walk_at "lp"
  refine s_asgG (L := [1, 2, 3, 4, 5, 6]) ?_
  walk_at "go"
  refine g_p (p_lst rfl (ps_cons (p_name (by simp) rfl (ps_cons (p_name (by simp) rfl (ps_cons (p_name (by simp) rfl (ps_cons (p_name (by simp) rfl (ps_cons (p_name (by simp) rfl (ps_cons (p_name (by simp) rfl (ps_nil ?_))))))))))))))
  walk_at "go"
  refine x_toldX (X' := fun C fs => ∃ z x, refu n m r l w c = some (z, x) ∧ C = He.ga K z ∧ fs = [(exF z, x)]) rfl (fun C fs hc => ?_) fun E' => ?_
  · obtain ⟨z, x, hr, rfl, rfl⟩ := hc
    rw [hr] at p
    exact hx_refu k (refu_cls hr) p
  · show EX K _ E' _ _ [.val (.lst [n, m, r, l, w, c]), .val n, .val m, .val r, .val l, .val w, .val c] _
    walk_at "go"
    refine ⟨rfl, rfl, n, m, r, l, w, c, rfl, hs, fun z x hr => ⟨z, x, hr, rfl, rfl⟩, fun hr q hq hk => ?_⟩
    rw [hr] at p
    exact ⟨_, _, _, rfl, f_name, rfl, p⟩
theorem w_law_heard_labelled {K : Fg} (k : KF K) (E : XK) : OkD K (tabs K) E (F_law_heard_labelled K) 2 0 (t_law_heard_labelled K E) := by
  rintro ds P X ⟨n, m, r, k0, ws, c, l, rfl, hs, p⟩
  refine ⟨rfl, ?_⟩
  unfold t_law_heard_labelled sp_Function_labelled
  show SW K _ E X _ [.val (funO K n m r k0 ws c), .val l] _ _ _ _
  walk_at "go"
  refine x_toldX (X' := fun C fs => ∃ z x, refu n m r l (.tup ws) c = some (z, x) ∧ C = He.ga K z ∧ fs = [(exF z, x)]) rfl (fun C fs hc => ?_) fun E' => ?_
  · obtain ⟨z, x, hr, rfl, rfl⟩ := hc
    rw [hr] at p
    exact hx_refu k (refu_cls hr) p
  · show EX K _ E' _ _ [.val (funO K n m r k0 ws c), .val l] _
    walk_at "go"
    refine ⟨_, rfl, rfl, ?_⟩
    walk_at "go"
    refine ⟨n, m, r, k0, ws, c, l, rfl, hs, fun z x hr => ⟨z, x, hr, rfl, rfl⟩, fun hr q hq hk => ?_⟩
    rw [hr] at p
    exact ⟨_, _, _, rfl, f_name, rfl, p⟩
theorem w_law_heard_changed {K : Fg} (k : KF K) (E : XK) : OkD K (tabs K) E (F_law_heard_changed K) 3 0 (t_law_heard_changed K E) := by
  rintro ds P X ⟨n, m, r, k0, ws, c, q, d, rfl, hk0, h⟩
  refine ⟨rfl, ?_⟩
  unfold t_law_heard_changed sp_Function_changed
  show SW K _ E X _ [.val (funO K n m r k0 ws c), .val (.str q), .val d] _ _ _ _
  walk_at "go"
  rcases h with ⟨rfl, hs, p⟩ | ⟨rfl, hs, p⟩ | ⟨rfl, hs, p⟩
  · refine x_toldX (X' := fun C fs => ∃ z x, refu n m d (labD K k0) (.tup ws) c = some (z, x) ∧ C = He.ga K z ∧ fs = [(exF z, x)]) rfl (fun C fs hc => ?_) fun E' => ?_
    · obtain ⟨z, x, hr, rfl, rfl⟩ := hc
      rw [hr] at p
      exact hx_refu k (refu_cls hr) p
    · show EX K _ E' _ _ [.val (funO K n m r k0 ws c), .val (.str "result"), .val d] _
      walk_at "go"
      refine ⟨_, rfl, rfl, ?_⟩
      walk_at "go"
      refine ⟨n, m, r, k0, ws, c, "result", d, rfl, hk0, .inl ⟨rfl, hs, fun z x hr => ⟨z, x, hr, rfl, rfl⟩, fun hr q hq hk => ?_⟩⟩
      rw [hr] at p
      exact ⟨_, _, _, rfl, f_name, rfl, p⟩
  · refine x_toldX (X' := fun C fs => ∃ z x, refu n m r (labD K k0) d c = some (z, x) ∧ C = He.ga K z ∧ fs = [(exF z, x)]) rfl (fun C fs hc => ?_) fun E' => ?_
    · obtain ⟨z, x, hr, rfl, rfl⟩ := hc
      rw [hr] at p
      exact hx_refu k (refu_cls hr) p
    · show EX K _ E' _ _ [.val (funO K n m r k0 ws c), .val (.str "writes"), .val d] _
      walk_at "go"
      refine ⟨_, rfl, rfl, ?_⟩
      walk_at "go"
      refine ⟨n, m, r, k0, ws, c, "writes", d, rfl, hk0, .inr (.inl ⟨rfl, hs, fun z x hr => ⟨z, x, hr, rfl, rfl⟩, fun hr q hq hk => ?_⟩)⟩
      rw [hr] at p
      exact ⟨_, _, _, rfl, f_name, rfl, p⟩
  · refine x_toldX (X' := fun C fs => ∃ z x, refu n m r (labD K k0) (.tup ws) d = some (z, x) ∧ C = He.ga K z ∧ fs = [(exF z, x)]) rfl (fun C fs hc => ?_) fun E' => ?_
    · obtain ⟨z, x, hr, rfl, rfl⟩ := hc
      rw [hr] at p
      exact hx_refu k (refu_cls hr) p
    · show EX K _ E' _ _ [.val (funO K n m r k0 ws c), .val (.str "cost"), .val d] _
      walk_at "go"
      refine ⟨_, rfl, rfl, ?_⟩
      walk_at "go"
      refine ⟨n, m, r, k0, ws, c, "cost", d, rfl, hk0, .inr (.inr ⟨rfl, hs, fun z x hr => ⟨z, x, hr, rfl, rfl⟩, fun hr q hq hk => ?_⟩)⟩
      rw [hr] at p
      exact ⟨_, _, _, rfl, f_name, rfl, p⟩
end Lp.Q

set_option Elab.async false
set_option linter.all false
set_option maxRecDepth 100000
set_option maxHeartbeats 4000000
/-! k04WA: what is owed. Own work. -/
namespace Lp.Q
open PySem PySem.Spec PyProof.Rows L2 LamX Lp
local macro_rules | `(tactic| walk_at "lp") => `(tactic| first
  | with_reducible refine s_seq ?_
  | with_reducible refine s_if ?_
  | with_reducible refine s_ret ?_
  | with_reducible refine s_next ?_
  | with_reducible refine s_asg ?_
  | with_reducible refine t_test ?_
  | with_reducible refine t_val ?_
  | with_reducible refine t_and ?_
  | with_reducible refine t_or ?_
  | with_reducible refine t_not ?_
  | ((with_reducible apply x_var); (focus rfl))
  | with_reducible refine x_non ?_
  | with_reducible refine x_bl ?_
  | with_reducible refine x_int ?_
  | with_reducible refine x_str ?_
  | with_reducible refine x_and ?_
  | with_reducible refine x_or ?_
  | with_reducible refine x_not ?_
  | with_reducible refine x_if ?_
  | with_reducible refine x_isInt ?_
  | with_reducible refine x_isBool ?_
  | with_reducible refine x_isStr ?_
  | with_reducible refine x_isTup ?_
  | with_reducible refine x_isLst ?_
  | with_reducible refine x_isDct ?_
  | ((with_reducible refine x_isObj ?_ ?_); (focus (simp [Cs])))
  | with_reducible refine x_isi2 ?_
  | with_reducible refine x_len ?_
  | with_reducible refine x_eq ?_
  | with_reducible refine x_ne ?_
  | with_reducible refine x_ix ?_
  | with_reducible refine x_fld ?_
  | with_reducible refine x_tup ?_
  | with_reducible refine x_call ?_
  | with_reducible refine x_make ?_
  | with_reducible refine x_meth ?_
  | with_reducible refine x_makeN ?_
  | with_reducible refine x_callP ?_
  | with_reducible refine x_makeP ?_
  | with_reducible refine x_makeNP ?_
  | with_reducible refine x_sum ?_
  | with_reducible refine i_rng3 ?_
  | with_reducible refine x_methP ?_
  | ((with_reducible apply x_callJ); (focus rfl))
  | with_reducible refine a_cons ?_
  | with_reducible refine a_nil ?_
  | ((with_reducible apply b_own); (focus rfl))
  | ((with_reducible apply b_var); (focus rfl))
  | with_reducible refine EX.eb ?_
  | with_reducible refine l_list ?_
  | with_reducible refine l_lst ?_
  | with_reducible refine l_revL ?_
  | with_reducible refine l_sortS ?_
  | with_reducible refine i_u ?_
  | with_reducible refine i_rng1 ?_
  | with_reducible refine i_rng2 ?_
  | with_reducible refine i_enum ?_
  | with_reducible refine x_isNB ?_
  | with_reducible refine x_notNB ?_
  | with_reducible refine x_tuple ?_
  | with_reducible refine x_int1 ?_
  | with_reducible refine x_bool1 ?_
  | with_reducible refine x_str1 ?_
  | with_reducible refine x_max2 ?_
  | with_reducible refine x_sub ?_
  | with_reducible refine x_mod ?_
  | with_reducible refine x_fdiv ?_
  | with_reducible refine x_pow ?_
  | with_reducible refine x_gt ?_
  | with_reducible refine x_ge ?_
  | with_reducible refine x_le ?_
  | with_reducible refine x_neg ?_
  | with_reducible refine s_retN ?_
  | with_reducible refine s_raise ?_
  | with_reducible refine s_brk ?_
  | with_reducible refine s_ct ?_
  | with_reducible refine le_le ?_
  | with_reducible refine le_lt ?_
  | with_reducible refine o_no ?_
  | with_reducible refine tyes ?_
  | with_reducible refine x_l_lst ?_
  | with_reducible refine x_l_lc ?_
  | with_reducible refine x_l_list ?_
  | with_reducible refine x_l_sort ?_
  | with_reducible refine x_l_rev ?_
  | with_reducible refine o_at ?_)
local macro_rules | `(tactic| walk_at "an") => `(tactic| first
  | refine ⟨trivial, ?_⟩
  | refine ⟨_, _, rfl, rfl, ?_⟩
  | refine bt ?_
  | refine bf ?_
  | refine nbt ?_
  | refine nbf ?_
  | refine ot ?_
  | refine of ?_
  | refine not_ ?_
  | refine nof ?_
  | refine ⟨true, _, rfl, ?_⟩
  | refine ⟨false, _, rfl, ?_⟩
  | refine .inl ⟨true, _, rfl, ?_⟩
  | refine .inl ⟨false, _, rfl, ?_⟩
  | refine ct ?_
  | refine cf ?_
  | refine ct' ?_
  | refine cf' ?_
  | (refine ⟨okd_int _, okd_int _, ?_⟩; rw [eqD_I]; try rw [dec_refl])
  | (refine ⟨okd_bl _, okd_bl _, ?_⟩; rw [eqD_B]; try rw [dec_refl]))
local macro_rules | `(tactic| walk_at "go") => `(tactic| repeat (first | walk_at "lp" | walk_at "an"))
theorem okd_lbsL : Okd (.lst (lbs.map .str)) := (dok_lst (n := 1) (S := lbs.map .str) (fun d hd => by
  obtain ⟨s, hs, rfl⟩ := List.mem_map.mp hd
  have : strOkB s = true := by
    have h : ∀ s ∈ lbs, strOkB s = true := by decide +kernel
    exact h s hs
  exact dok_str this) (by decide) (by decide)).1
theorem lab_test {K : Fg} {E : XK} {X : XP} {Γ : List Ent} {l : Dt} {G : Bool → Prop} {i : Nat} (h0 : Γ[i]? = some (.val l)) (hl : dOk 20 l ∨ ∃ k, k < 4 ∧ l = labD K k) (hf : isLabA l = false → G true) (ht : isLabA l = true → G false) :
    ET K (tabs K) E X (tAnd (tNot (tB (tCB (rIsiU K (Cs K)) (tCons (tVar i) (tCons (tC (.ref (He.ga K "Label"))) tNil))))) (tOr (tNot (tB (tCB (rIsiU K (Cs K)) (tCons (tVar i) (tCons (tC (.ty "str")) tNil))))) (tTest (tOp (vNin K) (tVar i) (tCall (sp_law_lo_labels K) [] eN tNil))))) Γ G := by
  rcases hl with hg | ⟨k, hk, rfl⟩
  · refine t_and (t_not (t_val (x_isObj (by simp [Cs]) (b_var h0 ⟨dok_ty hg, ?_⟩))))
    rw [tObj_no hg]
    refine nbf ?_
    refine t_or (t_not (t_val (x_isStr (b_var h0 ⟨dok_ty hg, nob (fun h => ?_) fun h => ?_⟩))))
    · obtain ⟨s, rfl⟩ : ∃ s, l = .str s := by cases l <;> first | exact ⟨_, rfl⟩ | cases h
      unfold sp_law_lo_labels
      refine t_test (x_nin (b_var h0 (EX.eb (x_callP (a_nil ⟨rfl, lbs.map .str, .inr rfl, hg.1, okd_lbsL, ?_⟩)))))
      rw [any_lbs]
      cases hd : decide (s ∈ lbs) with
      | true => exact ⟨_, rfl, ht hd⟩
      | false => exact ⟨_, rfl, hf hd⟩
    · cases l <;> first | (cases h; done) | exact hf rfl | exact absurd hg.1.1 (by simp [plainB])
  · refine t_and (t_not (t_val (x_isObj (by simp [Cs]) (b_var h0 ⟨lab_ty, ?_⟩))))
    rw [tObj_lab]
    exact nbt (ht rfl)
theorem bad_filt {a : Int} : ∀ l : List Dt, badW a l = ((l.filter fun r => !termB a (prt r 1)).map fun r => prt r 1).head?
  | [] => rfl
  | r :: l => by
    unfold badW
    rw [List.filter_cons]
    cases h : termB a (prt r 1) with
    | true => rw [if_pos rfl, if_neg (by simp)]; exact bad_filt l
    | false => rfl
theorem w_law_owed {K : Fg} (k : KF K) (E : XK) : OkD K (tabs K) E (F_law_owed K) 9 3 (t_law_owed K E) := by
  rintro ds P X ⟨n, m, r, l, w, c, rfl, ⟨gn, gm, gr, hl, hw, gc⟩, p⟩
  refine ⟨rfl, ?_⟩
  unfold t_law_owed sp_law_lo_is_name sp_law_lo_is_whole sp_law_lo_is_term sp_law_is_writes
  show SW K _ E X _ [.val n, .val m, .val r, .val l, .val w, .val c, .emp, .emp, .emp] _ _ _ _
  walk_at "go"
  refine ⟨n, rfl, dok_mono gn (by decide), nbb (fun h1 => ?_) fun h1 => ?_⟩
  · rw [show refu n m r l w c = some (("BadPart" : Str), Dt.str "name") by simp [refu, h1]] at p
    walk_at "go"
    exact ⟨small (by decide), p⟩
  walk_at "go"
  refine ⟨m, 0, 2, rfl, dok_mono gm (by decide), nbb (fun h2 => ?_) fun h2 => ?_⟩
  · rw [show refu n m r l w c = some (("BadPart" : Str), Dt.str "arguments") by simp [refu, h1, h2]] at p
    walk_at "go"
    exact ⟨small (by decide), p⟩
  obtain ⟨a, rfl⟩ : ∃ a, m = .int a := by cases m <;> first | exact ⟨_, rfl⟩ | cases h2
  refine s_next ?_
  refine s_seq (s_if (lab_test rfl hl (fun h3 => ⟨fun _ => ?_, fun z => (nomatch z)⟩) fun h3 => ⟨fun z => (nomatch z), fun _ => ?_⟩))
  · rw [show refu n (.int a) r l w c = some (("BadLabel" : Str), l) by simp [refu, h1, h2, h3]] at p
    walk_at "go"
    exact ⟨small (show 2 ≤ 100000 by decide), p⟩
  walk_at "go"
  refine ⟨r, a, rfl, dok_mono gr (by decide), nbb (fun h4 => ?_) fun h4 => ?_⟩
  · rw [show refu n (.int a) r l w c = some (("BadTerm" : Str), r) by simp [refu, h1, h2, h3, intOf, h4]] at p
    walk_at "go"
    exact ⟨small (show 2 ≤ 100000 by decide), p⟩
  walk_at "go"
  refine ⟨w, rfl, hw.imp (fun h => dok_mono h (by decide)) id, nbb (fun h5 => ?_) fun h5 => ?_⟩
  · rw [show refu n (.int a) r l w c = some (("BadPart" : Str), Dt.str "writes") by simp [refu, h1, h2, h3, intOf, h4, h5]] at p
    walk_at "go"
    exact ⟨small (by decide), p⟩
  obtain ⟨b, ws, rfl, hi⟩ : ∃ b ws, w = sqD b ws ∧ itemsD w = ws := by
    have : isSeq w = true := by
      unfold wrB at h5
      exact (ba2 (ba2 (ba2 h5).1).1).1
    exact seq_of this
  have gw : dOk 22 (sqD b ws) := hw.resolve_right fun z => by cases b <;> cases z
  have hwr := h5
  rw [wr_sq] at h5
  have hlw : ws.length ≤ 3 := of_decide_eq_true (ba2 (ba2 h5).1).1
  have hrow : ∀ x ∈ ws, ∃ y z, x = .tup [y, z] ∧ isNmB y = true := fun x hx => row_at (List.all_eq_true.mp (ba2 (ba2 h5).1).2 x hx)
  refine s_next ?_
  refine s_seq (s_asg (x_l (l_filt (f := id) (h := fun x => prt x 1) (pb := fun x => !termB a (prt x 1)) rfl ?_)))
  walk_at "go"
  refine .inl ⟨b, ws, rfl, ws, (List.map_id _).symm, small (by omega), fun x hx => ?_, ?_⟩
  · obtain ⟨y, z, rfl, _⟩ := hrow x hx
    have gz : dOk 20 z := dok_partN (b := false) (n := 21) (dok_partN gw hx) (by simp)
    refine p_tup rfl (ps_cons (p_name (by simp) rfl (ps_cons (p_name (by simp) rfl (ps_nil ?_)))))
    walk_at "go"
    refine ⟨z, a, rfl, dok_mono gz (by decide), _, rfl, rfl, fun _ => ?_⟩
    walk_at "go"
    rfl
  · have hb := bad_filt (a := a) ws
    have gW : ∀ x ∈ ((ws.filter fun x => !termB a (prt x 1)).map fun x => prt x 1), dOk 20 x := fun x hx => by
      obtain ⟨v, hv, rfl⟩ := List.mem_map.mp hx
      obtain ⟨hv, _⟩ := List.mem_filter.mp hv
      obtain ⟨y, z, rfl, _⟩ := hrow v hv
      exact dok_partN (b := false) (n := 21) (dok_partN gw hv) (by simp [prt])
    have lW : ((ws.filter fun x => !termB a (prt x 1)).map fun x => prt x 1).length ≤ 3 := by
      rw [List.length_map]
      exact Nat.le_trans (List.length_filter_le _ _) hlw
    generalize ((ws.filter fun x => !termB a (prt x 1)).map fun x => prt x 1) = W at hb gW lW ⊢
    walk_at "go"
    refine ⟨small (by decide), (dok_lst gW (by omega) (by decide)).1, okd_nilL, ?_⟩
    rw [eqD_nil]
    cases W with
    | cons t W =>
      rw [show refu n (.int a) r l (sqD b ws) c = some (("BadTerm" : Str), t) by simp [refu, h1, h2, h3, intOf, h4, hwr, hi, hb]] at p
      rw [decide_eq_false (by simp)]
      walk_at "go"
      refine ⟨true, _, 0, 0, t, rfl, rfl, ixN_of (k := 0) (by simp), rfl, ?_⟩
      walk_at "go"
      exact ⟨small (show 2 ≤ 100000 by decide), p⟩
    | nil =>
      rw [decide_eq_true rfl]
      walk_at "go"
      refine ⟨c, 0, 99, rfl, dok_mono gc (by decide), bb (fun h6 => ?_) fun h6 => ?_⟩
      · rw [show refu n (.int a) r l (sqD b ws) c = none by simp [refu, h1, h2, h3, intOf, h4, hwr, hi, hb, h6]] at p
        walk_at "go"
        exact p
      · rw [show refu n (.int a) r l (sqD b ws) c = some (("BadPart" : Str), Dt.str "cost") by simp [refu, h1, h2, h3, intOf, h4, hwr, hi, hb, h6]] at p
        walk_at "go"
        exact ⟨small (by decide), p⟩
end Lp.Q

set_option Elab.async false
set_option linter.all false
set_option maxRecDepth 100000
set_option maxHeartbeats 4000000
/-! k04WB: deep terms, wide ones. Own work. -/
namespace Lp.Q
open PySem PySem.Spec PyProof.Rows L2 LamX Lp
local macro_rules | `(tactic| walk_at "lp") => `(tactic| first
  | with_reducible refine s_seq ?_
  | with_reducible refine s_if ?_
  | with_reducible refine s_ret ?_
  | with_reducible refine s_next ?_
  | with_reducible refine s_asg ?_
  | with_reducible refine t_test ?_
  | with_reducible refine t_val ?_
  | with_reducible refine t_and ?_
  | with_reducible refine t_or ?_
  | with_reducible refine t_not ?_
  | ((with_reducible apply x_var); (focus rfl))
  | with_reducible refine x_non ?_
  | with_reducible refine x_bl ?_
  | with_reducible refine x_int ?_
  | with_reducible refine x_str ?_
  | with_reducible refine x_and ?_
  | with_reducible refine x_or ?_
  | with_reducible refine x_not ?_
  | with_reducible refine x_if ?_
  | with_reducible refine x_isInt ?_
  | with_reducible refine x_isBool ?_
  | with_reducible refine x_isStr ?_
  | with_reducible refine x_isTup ?_
  | with_reducible refine x_isLst ?_
  | with_reducible refine x_isDct ?_
  | ((with_reducible refine x_isObj ?_ ?_); (focus (simp [Cs])))
  | with_reducible refine x_isi2 ?_
  | with_reducible refine x_len ?_
  | with_reducible refine x_eq ?_
  | with_reducible refine x_ne ?_
  | with_reducible refine x_ix ?_
  | with_reducible refine x_fld ?_
  | with_reducible refine x_tup ?_
  | with_reducible refine x_call ?_
  | with_reducible refine x_make ?_
  | with_reducible refine x_meth ?_
  | with_reducible refine x_makeN ?_
  | with_reducible refine x_callP ?_
  | with_reducible refine x_makeP ?_
  | with_reducible refine x_makeNP ?_
  | with_reducible refine x_sum ?_
  | with_reducible refine i_rng3 ?_
  | with_reducible refine x_methP ?_
  | ((with_reducible apply x_callJ); (focus rfl))
  | with_reducible refine a_cons ?_
  | with_reducible refine a_nil ?_
  | ((with_reducible apply b_own); (focus rfl))
  | ((with_reducible apply b_var); (focus rfl))
  | with_reducible refine EX.eb ?_
  | with_reducible refine l_list ?_
  | with_reducible refine l_lst ?_
  | with_reducible refine l_revL ?_
  | with_reducible refine l_sortS ?_
  | with_reducible refine i_u ?_
  | with_reducible refine i_rng1 ?_
  | with_reducible refine i_rng2 ?_
  | with_reducible refine i_enum ?_
  | with_reducible refine x_isNB ?_
  | with_reducible refine x_notNB ?_
  | with_reducible refine x_tuple ?_
  | with_reducible refine x_int1 ?_
  | with_reducible refine x_bool1 ?_
  | with_reducible refine x_str1 ?_
  | with_reducible refine x_max2 ?_
  | with_reducible refine x_sub ?_
  | with_reducible refine x_mod ?_
  | with_reducible refine x_fdiv ?_
  | with_reducible refine x_pow ?_
  | with_reducible refine x_gt ?_
  | with_reducible refine x_ge ?_
  | with_reducible refine x_le ?_
  | with_reducible refine x_neg ?_
  | with_reducible refine s_retN ?_
  | with_reducible refine s_raise ?_
  | with_reducible refine s_brk ?_
  | with_reducible refine s_ct ?_
  | with_reducible refine le_le ?_
  | with_reducible refine le_lt ?_
  | with_reducible refine o_no ?_
  | with_reducible refine tyes ?_
  | with_reducible refine x_l_lst ?_
  | with_reducible refine x_l_lc ?_
  | with_reducible refine x_l_list ?_
  | with_reducible refine x_l_sort ?_
  | with_reducible refine x_l_rev ?_
  | with_reducible refine o_at ?_)
local macro_rules | `(tactic| walk_at "an") => `(tactic| first
  | refine ⟨small (Nat.le_of_ble_eq_true rfl), ?_⟩
  | refine ⟨trivial, ?_⟩
  | refine ⟨_, _, rfl, rfl, ?_⟩
  | refine bt ?_
  | refine bf ?_
  | refine nbt ?_
  | refine nbf ?_
  | refine ot ?_
  | refine of ?_
  | refine not_ ?_
  | refine nof ?_
  | refine ⟨true, _, rfl, ?_⟩
  | refine ⟨false, _, rfl, ?_⟩
  | refine .inl ⟨true, _, rfl, ?_⟩
  | refine .inl ⟨false, _, rfl, ?_⟩
  | refine ct ?_
  | refine cf ?_
  | refine ct' ?_
  | refine cf' ?_
  | (refine ⟨okd_int _, okd_int _, ?_⟩; rw [eqD_I]; try rw [dec_refl])
  | (refine ⟨okd_bl _, okd_bl _, ?_⟩; rw [eqD_B]; try rw [dec_refl]))
local macro_rules | `(tactic| walk_at "go") => `(tactic| repeat (first | walk_at "lp" | walk_at "an"))
theorem all_nil {n : Nat} : ∀ d ∈ ([] : List Dt), dOk n d := fun _ z => nomatch z
theorem all_cons {n : Nat} {x : Dt} {l : List Dt} (h : dOk n x) (hl : ∀ d ∈ l, dOk n d) : ∀ d ∈ x :: l, dOk n d := fun d hd => by
  rcases List.mem_cons.mp hd with rfl | hd
  · exact h
  · exact hl d hd
theorem tup_ok {n : Nat} {l : List Dt} (h : ∀ d ∈ l, dOk n d) (hl : l.length ≤ 100000) (hn : n ≤ 62) : dOk (n + 1) (.tup l) := dok_tup h hl hn
/-- data laid out -/
local macro_rules | `(tactic| walk_at "dk") => `(tactic| repeat (first
  | exact dok_int _
  | exact dok_bl _
  | exact dok_non
  | exact dok_str (by decide +kernel)
  | exact all_nil
  | assumption
  | refine all_cons ?_ ?_
  | refine dok_tup ?_ (by simp) (by omega)
  | refine dok_lst ?_ (by simp) (by omega)))
theorem w_law_deep {K : Fg} (k : KF K) : OkJ K (tabs K) (F_law_deep K) 5 3 (t_law_deep K eN) := by
  rintro E j ds P ⟨m, rfl, h1, h2, p⟩
  refine ⟨rfl, ?_⟩
  unfold t_law_deep sp_law_one
  show SW K _ E _ _ [.jar j, .val (.int (m : Nat)), .emp, .emp, .emp] _ _ _ _
  walk_at "go"
  refine ⟨by simp, by decide, fun x hx => ?_⟩
  have hx0 : dOk 2 x := by
    have h : ∀ d ∈ ([.int 0, .int 2] : List Dt), dOk 2 d := by walk_at "dk"
    exact h x hx
  walk_at "go"
  refine s_for ?_
  walk_at "go"
  refine ⟨_, rfl, by omega, by omega, fun i Γ' => ∃ t e3 e4, Γ' = [.jar j, .val (.int (m : Nat)), .val t, e3, e4] ∧ noOwn Γ' 3 = true ∧ noOwn Γ' 4 = true ∧ dOk (2 * (i + 1)) t, [3], ⟨x, .emp, .emp, rfl, rfl, rfl, hx0⟩, fun i d Γ' hd iv => ?_, fun Γ' iv => ?_⟩
  · obtain ⟨t, e3, e4, rfl, n3, n4, ht⟩ := iv
    obtain ⟨hi, rfl⟩ := rgD_get hd
    refine g_p (p_name (by simp) n3 ?_)
    walk_at "go"
    refine ⟨by simp, Nat.le_of_ble_eq_true rfl, fun x hx => ⟨x, _, _, rfl, rfl, rfl, ?_⟩⟩
    have hN : 2 * (i + 1) + 2 ≤ 62 := by omega
    have ht' : dOk (2 * (i + 1) + 1) t := dok_mono ht (by omega)
    have key : ∀ N, N + 2 ≤ 62 → dOk N t → ∀ d ∈ ([.tup [.str "plus", t, .int 1], .tup [.str "same", .int 0, t], .tup [.str "if", t, .int 1, .int 2], .tup [.str "call", .str "g", .tup [t]], .tup [.str "if", .int 1, .int 2, t]] : List Dt), dOk (N + 1 + 1) d := fun N hN ht => by
      have ht1 : dOk (N + 1) t := dok_mono ht (by omega)
      walk_at "dk"
    exact dok_mono (key _ hN ht x hx) (by omega)
  · obtain ⟨t, e3, e4, rfl, n3, n4, ht⟩ := iv
    walk_at "go"
    refine p t ?_
    rw [rgD_len] at ht
    exact dok_mono ht (by omega)
theorem rg2 {q : Nat} (h1 : 2 ≤ q) (h2 : q ≤ 16) : RgC 0 ((q : Int) - 1) 2 (q / 2) := by
  have key : ∀ q : Fin 17, 2 ≤ q.val → RgC 0 ((q.val : Int) - 1) 2 (q.val / 2) := by unfold RgC; decide
  exact key ⟨q, by omega⟩ h1
theorem w_law_wide {K : Fg} (k : KF K) (E : XK) : OkD K (tabs K) E (F_law_wide K) 3 2 (t_law_wide K E) := by
  rintro ds P X ⟨m, rfl, h1, h2, p⟩
  refine ⟨rfl, ?_⟩
  unfold t_law_wide
  show SW K _ E X _ [.val (.int (m : Nat)), .emp, .emp] _ _ _ _
  refine s_seq (s_asg (x_l (l_rep (EL.em (l_lst ?_)))))
  walk_at "go"
  refine x_add ?_
  walk_at "go"
  refine ⟨⟨by decide, by decide⟩, ?_⟩
  have e1 : (((m : Nat) : Int) + 1) / 2 = (((m + 1) / 2 : Nat) : Int) := by omega
  rw [e1]
  refine ⟨_, rfl, by omega, by omega, small (by rw [Int.toNat_natCast]; simp; omega), ?_⟩
  rw [Int.toNat_natCast]
  have hL : (List.replicate ((m + 1) / 2) [(.int 0 : Dt)]).flatten = List.replicate ((m + 1) / 2) (.int 0) := by
    induction (m + 1) / 2 with
    | zero => rfl
    | succ n ih => rw [List.replicate_succ, List.flatten_cons, ih]; rfl
  rw [hL]
  refine s_seq (s_while ⟨fun μ Γ' => ∃ L e, Γ' = [.val (.int (m : Nat)), .val (.lst L), e] ∧ noOwn Γ' 2 = true ∧ L.length = μ ∧ 1 ≤ L.length ∧ L.length ≤ 16 ∧ ∀ x ∈ L, dOk (16 - L.length) x, ⟨_, _, .emp, rfl, rfl, rfl, by rw [List.length_replicate]; omega, by rw [List.length_replicate]; omega, fun x hx => by rw [List.eq_of_mem_replicate hx]; exact dok_int _⟩, fun μ Γ' iv => ?_⟩)
  obtain ⟨L, e, rfl, n2, hμ, hl1, hl2, hd⟩ := iv
  walk_at "go"
  refine bb (fun hc => ?_) fun hc => ?_
  · have hlen : 2 ≤ L.length := by have := of_decide_eq_true hc; omega
    have gL : ∀ i, i < L.length → L[i]? = some (L.getD i .non) ∧ dOk (16 - L.length) (L.getD i .non) := fun i hi => by
      have e0 : L[i]? = some (L.getD i .non) := by rw [List.getD_eq_getElem?_getD, List.getElem?_eq_getElem hi]; rfl
      exact ⟨e0, hd _ (List.mem_of_getElem? e0)⟩
    refine s_asg (x_l (l_catM (EL.em (l_map (f := fun i : Nat => .int ((2 * i : Nat))) (h := fun i : Nat => .tup [.str "plus", L.getD (2 * i) .non, L.getD (2 * i + 1) .non]) (by simp [n2]) ?_))))
    walk_at "go"
    refine ⟨_, _, _, _, rfl, rfl, rfl, rg2 hlen hl2, List.range (L.length / 2), ?_, small (by rw [List.length_range]; omega), fun i hi => ?_, ?_⟩
    · unfold rgcD
      congr 1
      funext i
      congr 1
      omega
    · have hi := List.mem_range.mp hi
      have nw : noOwn (wipeG [.val (.int (m : Nat)), .val (.lst L), e] [2]) 2 = true := rfl
      refine p_name (by simp) nw ?_
      walk_at "go"
      refine ⟨true, L, 2 * i, 2 * i, _, rfl, rfl, ixN_of (k := 2 * i) (by omega), (gL (2 * i) (by omega)).1, ?_⟩
      refine a_cons (x_ix (b_var rfl (x_add ?_)))
      walk_at "go"
      refine ⟨true, L, ((2 * i + 1 : Nat) : Int), 2 * i + 1, _, rfl, rfl, ixN_of (by omega), (gL (2 * i + 1) (by omega)).1, ?_⟩
      walk_at "go"
      rfl
    · refine EL.em (l_sl ?_)
      walk_at "lp"
      refine o_at (x_sub ?_)
      walk_at "go"
      have e2 : ((L.length : Nat) : Int) - ((L.length : Nat) : Int) % 2 = ((L.length - L.length % 2 : Nat) : Int) := by omega
      refine ⟨by decide, _, _, rfl, rfl, _, rfl, ?_⟩
      rw [e2]
      walk_at "go"
      refine ⟨L, rfl, ?_⟩
      rw [cut_drop, List.length_map, List.length_range, List.length_drop]
      refine ⟨small (by omega), ?_⟩
      have hlen' : (((List.range (L.length / 2)).map fun i : Nat => Dt.tup [.str "plus", L.getD (2 * i) .non, L.getD (2 * i + 1) .non]) ++ L.drop (L.length - L.length % 2)).length = L.length / 2 + L.length % 2 := by
        rw [List.length_append, List.length_map, List.length_range, List.length_drop]; omega
      refine ⟨_, by omega, _, e, rfl, n2, rfl, by rw [hlen']; omega, by rw [hlen']; omega, fun x hx => ?_⟩
      rw [hlen']
      rcases List.mem_append.mp hx with hx | hx
      · obtain ⟨i, hi, rfl⟩ := List.mem_map.mp hx
        have hi := List.mem_range.mp hi
        have g1 := (gL (2 * i) (by omega)).2
        have g2 := (gL (2 * i + 1) (by omega)).2
        have : dOk (16 - L.length + 1) (.tup [.str "plus", L.getD (2 * i) .non, L.getD (2 * i + 1) .non]) := dok_tup (all_cons (dok_str (by decide +kernel)) (all_cons g1 (all_cons g2 all_nil))) (show 3 ≤ 100000 by decide) (by omega)
        exact dok_mono this (by omega)
      · exact dok_mono (hd x (List.mem_of_mem_drop hx)) (by omega)
  · have hlen : L.length = 1 := by have := of_decide_eq_false hc; omega
    walk_at "go"
    match L, hlen with
    | [x], _ =>
    refine ⟨true, [x], 0, 0, x, rfl, rfl, rfl, rfl, p x (dok_mono (hd x (by simp)) (show 16 - 1 ≤ 16 by decide))⟩
end Lp.Q

set_option Elab.async false
set_option linter.all false
set_option maxRecDepth 100000
set_option maxHeartbeats 4000000
/-! k04WC: terms right and wrong; odds. Own work. -/
namespace Lp.Q
open PySem PySem.Spec PyProof.Rows L2 LamX Lp
local macro_rules | `(tactic| walk_at "lp") => `(tactic| first
  | with_reducible refine s_seq ?_
  | with_reducible refine s_if ?_
  | with_reducible refine s_ret ?_
  | with_reducible refine s_next ?_
  | with_reducible refine s_asg ?_
  | with_reducible refine t_test ?_
  | with_reducible refine t_val ?_
  | with_reducible refine t_and ?_
  | with_reducible refine t_or ?_
  | with_reducible refine t_not ?_
  | ((with_reducible apply x_var); (focus rfl))
  | with_reducible refine x_non ?_
  | with_reducible refine x_bl ?_
  | with_reducible refine x_int ?_
  | with_reducible refine x_str ?_
  | with_reducible refine x_and ?_
  | with_reducible refine x_or ?_
  | with_reducible refine x_not ?_
  | with_reducible refine x_if ?_
  | with_reducible refine x_isInt ?_
  | with_reducible refine x_isBool ?_
  | with_reducible refine x_isStr ?_
  | with_reducible refine x_isTup ?_
  | with_reducible refine x_isLst ?_
  | with_reducible refine x_isDct ?_
  | ((with_reducible refine x_isObj ?_ ?_); (focus (simp [Cs])))
  | with_reducible refine x_isi2 ?_
  | with_reducible refine x_len ?_
  | with_reducible refine x_eq ?_
  | with_reducible refine x_ne ?_
  | with_reducible refine x_ix ?_
  | with_reducible refine x_fld ?_
  | with_reducible refine x_tup ?_
  | with_reducible refine x_call ?_
  | with_reducible refine x_make ?_
  | with_reducible refine x_meth ?_
  | with_reducible refine x_makeN ?_
  | with_reducible refine x_callP ?_
  | with_reducible refine x_makeP ?_
  | with_reducible refine x_makeNP ?_
  | with_reducible refine x_sum ?_
  | with_reducible refine i_rng3 ?_
  | with_reducible refine x_methP ?_
  | ((with_reducible apply x_callJ); (focus rfl))
  | with_reducible refine a_cons ?_
  | with_reducible refine a_nil ?_
  | ((with_reducible apply b_own); (focus rfl))
  | ((with_reducible apply b_var); (focus rfl))
  | with_reducible refine EX.eb ?_
  | with_reducible refine l_list ?_
  | with_reducible refine l_lst ?_
  | with_reducible refine l_revL ?_
  | with_reducible refine l_sortS ?_
  | with_reducible refine i_u ?_
  | with_reducible refine i_rng1 ?_
  | with_reducible refine i_rng2 ?_
  | with_reducible refine i_enum ?_
  | with_reducible refine x_isNB ?_
  | with_reducible refine x_notNB ?_
  | with_reducible refine x_tuple ?_
  | with_reducible refine x_int1 ?_
  | with_reducible refine x_bool1 ?_
  | with_reducible refine x_str1 ?_
  | with_reducible refine x_max2 ?_
  | with_reducible refine x_sub ?_
  | with_reducible refine x_mod ?_
  | with_reducible refine x_fdiv ?_
  | with_reducible refine x_pow ?_
  | with_reducible refine x_gt ?_
  | with_reducible refine x_ge ?_
  | with_reducible refine x_le ?_
  | with_reducible refine x_neg ?_
  | with_reducible refine s_retN ?_
  | with_reducible refine s_raise ?_
  | with_reducible refine s_brk ?_
  | with_reducible refine s_ct ?_
  | with_reducible refine le_le ?_
  | with_reducible refine le_lt ?_
  | with_reducible refine o_no ?_
  | with_reducible refine tyes ?_
  | with_reducible refine x_l_lst ?_
  | with_reducible refine x_l_lc ?_
  | with_reducible refine x_l_list ?_
  | with_reducible refine x_l_sort ?_
  | with_reducible refine x_l_rev ?_
  | with_reducible refine o_at ?_)
local macro_rules | `(tactic| walk_at "an") => `(tactic| first
  | refine ⟨small (Nat.le_of_ble_eq_true rfl), ?_⟩
  | refine ⟨trivial, ?_⟩
  | refine ⟨_, _, rfl, rfl, ?_⟩
  | refine bt ?_
  | refine bf ?_
  | refine nbt ?_
  | refine nbf ?_
  | refine ot ?_
  | refine of ?_
  | refine not_ ?_
  | refine nof ?_
  | refine ⟨true, _, rfl, ?_⟩
  | refine ⟨false, _, rfl, ?_⟩
  | refine .inl ⟨true, _, rfl, ?_⟩
  | refine .inl ⟨false, _, rfl, ?_⟩
  | refine ct ?_
  | refine cf ?_
  | refine ct' ?_
  | refine cf' ?_
  | (refine ⟨okd_int _, okd_int _, ?_⟩; rw [eqD_I]; try rw [dec_refl])
  | (refine ⟨okd_bl _, okd_bl _, ?_⟩; rw [eqD_B]; try rw [dec_refl]))
local macro_rules | `(tactic| walk_at "go") => `(tactic| repeat (first | walk_at "lp" | walk_at "an"))
theorem all_app {n : Nat} {l r : List Dt} (h : ∀ d ∈ l, dOk n d) (hr : ∀ d ∈ r, dOk n d) : ∀ d ∈ l ++ r, dOk n d := fun d hd => by
  rcases List.mem_append.mp hd with hd | hd
  · exact h d hd
  · exact hr d hd
local macro_rules | `(tactic| walk_at "dk") => `(tactic| repeat (first
  | exact dok_int _
  | exact dok_bl _
  | exact dok_non
  | exact dok_str (by decide +kernel)
  | exact all_nil
  | assumption
  | exact dok_mono (by assumption) (by omega)
  | refine all_app ?_ ?_
  | refine all_cons ?_ ?_
  | refine dok_tup ?_ (Nat.le_of_ble_eq_true rfl) (by omega)
  | refine dok_lst ?_ (Nat.le_of_ble_eq_true rfl) (by omega)))
theorem int_of {Q : Int → Prop} {i : Int} (h : Q i) : ∃ k, Dt.int i = .int k ∧ Q k := ⟨i, rfl, h⟩
local macro_rules | `(tactic| walk_at "gx") => `(tactic| repeat (first | walk_at "lp" | walk_at "an" | refine int_of ?_))
theorem w_law_terms {K : Fg} (k : KF K) : OkJ K (tabs K) (F_law_terms K) 3 1 (t_law_terms K eN) := by
  rintro E j ds P ⟨a, rfl, p⟩
  refine ⟨rfl, ?_⟩
  unfold t_law_terms sp_law_deep sp_law_wide
  show SW K _ E _ _ [.jar j, .val (.int a), .emp] _ _ _ _
  refine s_seq (s_asgO (l_lst ?_))
  walk_at "gx"
  refine fun q hq => ?_
  refine s_seq (s_extend (i := 2) rfl (l_lst ?_))
  walk_at "gx"
  refine s_extend (i := 2) rfl (l_lst ?_)
  walk_at "gx"
  refine s_extend (i := 2) rfl (l_lst ?_)
  walk_at "gx"
  refine s_extend (i := 2) rfl (l_lst ?_)
  walk_at "gx"
  refine s_append (i := 2) rfl (small' (Nat.le_of_ble_eq_true rfl)) ?_
  walk_at "gx"
  refine s_extend (i := 2) rfl (l_lst ?_)
  walk_at "gx"
  refine s_extend (i := 2) rfl (l_lst ?_)
  walk_at "gx"
  refine s_extend (i := 2) rfl (l_lst ?_)
  walk_at "gx"
  refine s_append (i := 2) rfl (small' (Nat.le_of_ble_eq_true rfl)) ?_
  walk_at "gx"
  refine s_extend (i := 2) rfl (l_lst ?_)
  walk_at "gx"
  refine s_append (i := 2) rfl (small' (Nat.le_of_ble_eq_true rfl)) ?_
  walk_at "gx"
  refine s_extend (i := 2) rfl (l_lst ?_)
  walk_at "gx"
  refine ⟨8, rfl, by decide, by decide, fun t1 h1 => ?_⟩
  walk_at "gx"
  refine ⟨9, rfl, by decide, by decide, fun t2 h2 => ?_⟩
  walk_at "gx"
  refine ⟨29, rfl, by decide, by decide, fun t3 h3 => ?_⟩
  walk_at "gx"
  refine ⟨31, rfl, by decide, by decide, fun t4 h4 => ?_⟩
  walk_at "gx"
  refine ⟨29, rfl, by decide, by decide, fun t5 h5 => ?_⟩
  walk_at "gx"
  refine x_l (l_catM (m_own rfl (EL.em (l_lst ?_))))
  walk_at "gx"
  refine ⟨29, rfl, by decide, by decide, fun t6 h6 => ?_⟩
  walk_at "gx"
  refine ⟨8, rfl, by decide, by decide, fun t7 h7 => ?_⟩
  walk_at "gx"
  refine ⟨7, rfl, by decide, by decide, fun t8 h8 => ?_⟩
  walk_at "gx"
  refine p _ ?_ (by simp) (Nat.le_of_ble_eq_true rfl)
  walk_at "dk"
end Lp.Q

set_option Elab.async false
set_option linter.all false
set_option maxRecDepth 100000
set_option maxHeartbeats 4000000
/-! k04WD: odds of each argument. Own work. -/
namespace Lp.Q
open PySem PySem.Spec PyProof.Rows L2 LamX Lp
local macro_rules | `(tactic| walk_at "lp") => `(tactic| first
  | with_reducible refine s_seq ?_
  | with_reducible refine s_if ?_
  | with_reducible refine s_ret ?_
  | with_reducible refine s_next ?_
  | with_reducible refine s_asg ?_
  | with_reducible refine t_test ?_
  | with_reducible refine t_val ?_
  | with_reducible refine t_and ?_
  | with_reducible refine t_or ?_
  | with_reducible refine t_not ?_
  | ((with_reducible apply x_var); (focus rfl))
  | with_reducible refine x_non ?_
  | with_reducible refine x_bl ?_
  | with_reducible refine x_int ?_
  | with_reducible refine x_str ?_
  | with_reducible refine x_and ?_
  | with_reducible refine x_or ?_
  | with_reducible refine x_not ?_
  | with_reducible refine x_if ?_
  | with_reducible refine x_isInt ?_
  | with_reducible refine x_isBool ?_
  | with_reducible refine x_isStr ?_
  | with_reducible refine x_isTup ?_
  | with_reducible refine x_isLst ?_
  | with_reducible refine x_isDct ?_
  | ((with_reducible refine x_isObj ?_ ?_); (focus (simp [Cs])))
  | with_reducible refine x_isi2 ?_
  | with_reducible refine x_len ?_
  | with_reducible refine x_eq ?_
  | with_reducible refine x_ne ?_
  | with_reducible refine x_ix ?_
  | with_reducible refine x_fld ?_
  | with_reducible refine x_tup ?_
  | with_reducible refine x_call ?_
  | with_reducible refine x_make ?_
  | with_reducible refine x_meth ?_
  | with_reducible refine x_makeN ?_
  | with_reducible refine x_callP ?_
  | with_reducible refine x_makeP ?_
  | with_reducible refine x_makeNP ?_
  | with_reducible refine x_sum ?_
  | with_reducible refine i_rng3 ?_
  | with_reducible refine x_methP ?_
  | ((with_reducible apply x_callJ); (focus rfl))
  | with_reducible refine a_cons ?_
  | with_reducible refine a_nil ?_
  | ((with_reducible apply b_own); (focus rfl))
  | ((with_reducible apply b_var); (focus rfl))
  | with_reducible refine EX.eb ?_
  | with_reducible refine l_list ?_
  | with_reducible refine l_lst ?_
  | with_reducible refine l_revL ?_
  | with_reducible refine l_sortS ?_
  | with_reducible refine i_u ?_
  | with_reducible refine i_rng1 ?_
  | with_reducible refine i_rng2 ?_
  | with_reducible refine i_enum ?_
  | with_reducible refine x_isNB ?_
  | with_reducible refine x_notNB ?_
  | with_reducible refine x_tuple ?_
  | with_reducible refine x_int1 ?_
  | with_reducible refine x_bool1 ?_
  | with_reducible refine x_str1 ?_
  | with_reducible refine x_max2 ?_
  | with_reducible refine x_sub ?_
  | with_reducible refine x_mod ?_
  | with_reducible refine x_fdiv ?_
  | with_reducible refine x_pow ?_
  | with_reducible refine x_gt ?_
  | with_reducible refine x_ge ?_
  | with_reducible refine x_le ?_
  | with_reducible refine x_neg ?_
  | with_reducible refine s_retN ?_
  | with_reducible refine s_raise ?_
  | with_reducible refine s_brk ?_
  | with_reducible refine s_ct ?_
  | with_reducible refine le_le ?_
  | with_reducible refine le_lt ?_
  | with_reducible refine o_no ?_
  | with_reducible refine tyes ?_
  | with_reducible refine x_l_lst ?_
  | with_reducible refine x_l_lc ?_
  | with_reducible refine x_l_list ?_
  | with_reducible refine x_l_sort ?_
  | with_reducible refine x_l_rev ?_
  | with_reducible refine o_at ?_)
local macro_rules | `(tactic| walk_at "an") => `(tactic| first
  | refine ⟨small (Nat.le_of_ble_eq_true rfl), ?_⟩
  | refine ⟨trivial, ?_⟩
  | refine ⟨_, _, rfl, rfl, ?_⟩
  | refine bt ?_
  | refine bf ?_
  | refine nbt ?_
  | refine nbf ?_
  | refine ot ?_
  | refine of ?_
  | refine not_ ?_
  | refine nof ?_
  | refine ⟨true, _, rfl, ?_⟩
  | refine ⟨false, _, rfl, ?_⟩
  | refine .inl ⟨true, _, rfl, ?_⟩
  | refine .inl ⟨false, _, rfl, ?_⟩
  | refine ct ?_
  | refine cf ?_
  | refine ct' ?_
  | refine cf' ?_
  | (refine ⟨okd_int _, okd_int _, ?_⟩; rw [eqD_I]; try rw [dec_refl])
  | (refine ⟨okd_bl _, okd_bl _, ?_⟩; rw [eqD_B]; try rw [dec_refl]))
local macro_rules | `(tactic| walk_at "go") => `(tactic| repeat (first | walk_at "lp" | walk_at "an"))
local macro_rules | `(tactic| walk_at "dk") => `(tactic| repeat (first
  | exact dok_int _
  | exact dok_bl _
  | exact dok_non
  | exact dok_str (by decide +kernel)
  | exact all_nil
  | assumption
  | exact dok_mono (by assumption) (by omega)
  | refine all_app ?_ ?_
  | refine all_cons ?_ ?_
  | refine dok_tup ?_ (Nat.le_of_ble_eq_true rfl) (by omega)
  | refine dok_lst ?_ (Nat.le_of_ble_eq_true rfl) (by omega)))
local macro_rules | `(tactic| walk_at "gx") => `(tactic| repeat (first | walk_at "lp" | walk_at "an" | refine int_of ?_))
theorem fa_nil {Q : Dt → Prop} : ∀ d ∈ ([] : List Dt), Q d := fun _ z => nomatch z
theorem fa_cons {Q : Dt → Prop} {x : Dt} {l : List Dt} (h : Q x) (hl : ∀ d ∈ l, Q d) : ∀ d ∈ x :: l, Q d := fun d hd => by
  rcases List.mem_cons.mp hd with rfl | hd
  · exact h
  · exact hl d hd
theorem fa_app {Q : Dt → Prop} {l r : List Dt} (h : ∀ d ∈ l, Q d) (hr : ∀ d ∈ r, Q d) : ∀ d ∈ l ++ r, Q d := fun d hd => by
  rcases List.mem_append.mp hd with hd | hd
  · exact h d hd
  · exact hr d hd
local macro_rules | `(tactic| walk_at "dq") => `(tactic| repeat (first
  | exact fa_nil
  | refine fa_app ?_ ?_
  | refine fa_cons (.inr rfl) ?_
  | refine fa_cons (.inr ⟨1, by decide, rfl⟩) ?_
  | refine fa_cons (.inl (by walk_at "dk"; done)) ?_))
theorem s_fin {K : Fg} {T : Tbl} {E : XK} {X : XP} {Γ : List Ent} {N : List Ent → Prop} {R : Rt → List Ent → Prop} {B C : List Ent → Prop} {ts : TS} {i : Nat}
    (q : SW K T E X ts Γ (fun Γ' => ∃ p l, Γ'[i]? = some (.own p l) ∧ N (Γ'.set i (.val (.lst l)))) R B C) : SW K T E X ts Γ N R B C := fun S0 J σ H r xo D n rt b c =>
  q S0 J σ H r xo D (fun Γ2 σ2 H2 ⟨p, l, h, a⟩ r2 g2 => n _ σ2 H2 a (r2.forget h) (g2.trans .setV)) rt b c
theorem make_lab {K : Fg} {P : List (Str × Dt) → Prop} {X : XP} {r : Nat} (h : r < 4) (p : P [("name", .str (lb r)), ("height", .int (3 - (r : Nat)))]) : F_Label___init K [.str (lb r)] P X :=
  ⟨_, rfl, dok_str (lb_ok h), fun z => (by rw [show isLab (.str (lb r)) = true from decide_eq_true (lb_in h)] at z; cases z), fun q hq e => by
    have : lb r = lb q := by injection e
    cases lb_inj h hq this
    exact p⟩
theorem w_law_odds {K : Fg} (k : KF K) : OkJ K (tabs K) (F_law_odds K) 7 5 (t_law_odds K eN) := by
  rintro E j ds P ⟨a, rfl, p⟩
  refine ⟨rfl, ?_⟩
  unfold t_law_odds sp_law_terms sp_law_one sp_Label___init
  show SW K _ E _ _ [.jar j, .val (.int a), .emp, .emp, .emp, .emp, .emp] _ _ _ _
  walk_at "gx"
  refine ⟨a, rfl, fun ts ht1 ht2 ht3 => ?_⟩
  walk_at "gx"
  refine ⟨ht2, by omega, fun t ht => ?_⟩
  have gt : dOk 19 t := ht1 t ht
  refine s_seq (s_asgO (l_lst ?_))
  walk_at "gx"
  refine x_dnew ?_
  walk_at "gx"
  refine x_l (l_rep (EL.em (l_lst ?_)))
  walk_at "gx"
  refine ⟨by decide, by decide, small (by decide), ?_⟩
  walk_at "gx"
  refine fun q hq => ?_
  refine s_seq (s_extend (i := 4) rfl (l_lst ?_))
  walk_at "gx"
  refine s_extend (i := 4) rfl (l_lst ?_)
  walk_at "gx"
  refine s_fin (i := 4) (s_extend (i := 4) rfl (l_lst ?_))
  walk_at "gx"
  refine ⟨_, _, rfl, ?_⟩
  walk_at "gx"
  refine make_lab (r := 1) (by decide) ?_
  walk_at "gx"
  refine p [_, _, ts, _, _, _] ⟨_, _, _, _, _, _, rfl, ?_, ?_, ?_, ?_, ?_, ?_, ?_⟩
  · intro o ho
    simp only [List.mem_cons, List.not_mem_nil, or_false] at ho
    rcases ho with rfl | rfl | rfl | rfl | rfl | rfl
    · exact ⟨by simp, Nat.le_of_ble_eq_true rfl⟩
    · exact ⟨by simp, Nat.le_of_ble_eq_true rfl⟩
    · exact ⟨ht2, ht3⟩
    · exact ⟨by simp, Nat.le_of_ble_eq_true rfl⟩
    · exact ⟨by simp, Nat.le_of_ble_eq_true rfl⟩
    · exact ⟨by simp, Nat.le_of_ble_eq_true rfl⟩
  · walk_at "dk"
  · walk_at "dk"
  · exact fun d hd => dok_mono (ht1 d hd) (by omega)
  · walk_at "dq"
  · walk_at "dq"
  · walk_at "dk"
end Lp.Q

set_option Elab.async false
set_option linter.all false
set_option maxRecDepth 100000
set_option maxHeartbeats 4000000
/-! k04WE: rows, changes, the law. Own work. -/
namespace Lp.Q
open PySem PySem.Spec PyProof.Rows L2 LamX Lp
local macro_rules | `(tactic| walk_at "lp") => `(tactic| first
  | with_reducible refine s_seq ?_
  | with_reducible refine s_if ?_
  | with_reducible refine s_ret ?_
  | with_reducible refine s_next ?_
  | with_reducible refine s_asg ?_
  | with_reducible refine t_test ?_
  | with_reducible refine t_val ?_
  | with_reducible refine t_and ?_
  | with_reducible refine t_or ?_
  | with_reducible refine t_not ?_
  | ((with_reducible apply x_var); (focus rfl))
  | with_reducible refine x_non ?_
  | with_reducible refine x_bl ?_
  | with_reducible refine x_int ?_
  | with_reducible refine x_str ?_
  | with_reducible refine x_and ?_
  | with_reducible refine x_or ?_
  | with_reducible refine x_not ?_
  | with_reducible refine x_if ?_
  | with_reducible refine x_isInt ?_
  | with_reducible refine x_isBool ?_
  | with_reducible refine x_isStr ?_
  | with_reducible refine x_isTup ?_
  | with_reducible refine x_isLst ?_
  | with_reducible refine x_isDct ?_
  | ((with_reducible refine x_isObj ?_ ?_); (focus (simp [Cs])))
  | with_reducible refine x_isi2 ?_
  | with_reducible refine x_len ?_
  | with_reducible refine x_eq ?_
  | with_reducible refine x_ne ?_
  | with_reducible refine x_ix ?_
  | with_reducible refine x_fld ?_
  | with_reducible refine x_tup ?_
  | with_reducible refine x_call ?_
  | with_reducible refine x_make ?_
  | with_reducible refine x_meth ?_
  | with_reducible refine x_makeN ?_
  | with_reducible refine x_callP ?_
  | with_reducible refine x_makeP ?_
  | with_reducible refine x_makeNP ?_
  | with_reducible refine x_sum ?_
  | with_reducible refine i_rng3 ?_
  | with_reducible refine x_methP ?_
  | ((with_reducible apply x_callJ); (focus rfl))
  | with_reducible refine a_cons ?_
  | with_reducible refine a_nil ?_
  | ((with_reducible apply b_own); (focus rfl))
  | ((with_reducible apply b_var); (focus rfl))
  | with_reducible refine EX.eb ?_
  | with_reducible refine l_list ?_
  | with_reducible refine l_lst ?_
  | with_reducible refine l_revL ?_
  | with_reducible refine l_sortS ?_
  | with_reducible refine i_u ?_
  | with_reducible refine i_rng1 ?_
  | with_reducible refine i_rng2 ?_
  | with_reducible refine i_enum ?_
  | with_reducible refine x_isNB ?_
  | with_reducible refine x_notNB ?_
  | with_reducible refine x_tuple ?_
  | with_reducible refine x_int1 ?_
  | with_reducible refine x_bool1 ?_
  | with_reducible refine x_str1 ?_
  | with_reducible refine x_max2 ?_
  | with_reducible refine x_sub ?_
  | with_reducible refine x_mod ?_
  | with_reducible refine x_fdiv ?_
  | with_reducible refine x_pow ?_
  | with_reducible refine x_gt ?_
  | with_reducible refine x_ge ?_
  | with_reducible refine x_le ?_
  | with_reducible refine x_neg ?_
  | with_reducible refine s_retN ?_
  | with_reducible refine s_raise ?_
  | with_reducible refine s_brk ?_
  | with_reducible refine s_ct ?_
  | with_reducible refine le_le ?_
  | with_reducible refine le_lt ?_
  | with_reducible refine o_no ?_
  | with_reducible refine tyes ?_
  | with_reducible refine x_l_lst ?_
  | with_reducible refine x_l_lc ?_
  | with_reducible refine x_l_list ?_
  | with_reducible refine x_l_sort ?_
  | with_reducible refine x_l_rev ?_
  | with_reducible refine o_at ?_)
local macro_rules | `(tactic| walk_at "an") => `(tactic| first
  | refine ⟨small (Nat.le_of_ble_eq_true rfl), ?_⟩
  | refine ⟨trivial, ?_⟩
  | refine ⟨_, _, rfl, rfl, ?_⟩
  | refine bt ?_
  | refine bf ?_
  | refine nbt ?_
  | refine nbf ?_
  | refine ot ?_
  | refine of ?_
  | refine not_ ?_
  | refine nof ?_
  | refine ⟨true, _, rfl, ?_⟩
  | refine ⟨false, _, rfl, ?_⟩
  | refine .inl ⟨true, _, rfl, ?_⟩
  | refine .inl ⟨false, _, rfl, ?_⟩
  | refine ct ?_
  | refine cf ?_
  | refine ct' ?_
  | refine cf' ?_
  | (refine ⟨okd_int _, okd_int _, ?_⟩; rw [eqD_I]; try rw [dec_refl])
  | (refine ⟨okd_bl _, okd_bl _, ?_⟩; rw [eqD_B]; try rw [dec_refl]))
local macro_rules | `(tactic| walk_at "go") => `(tactic| repeat (first | walk_at "lp" | walk_at "an"))
theorem SixL.six {K : Fg} {n m r l w c : Dt} (h : SixL K n m r l w c) : Six K n m r l w c :=
  ⟨dok_mono h.1 (by decide), dok_mono h.2.1 (by decide), dok_mono h.2.2.1 (by decide), h.2.2.2.1.imp (fun z => dok_mono z (by decide)) id, h.2.2.2.2.1.imp (fun z => dok_mono z (by decide)) id, dok_mono h.2.2.2.2.2 (by decide)⟩
theorem bad_mem {a : Int} {t : Dt} : ∀ {l : List Dt}, badW a l = some t → ∃ r ∈ l, t = prt r 1
  | [], h => by cases h
  | r :: l, h => by
    unfold badW at h
    split at h
    · obtain ⟨x, hx, e⟩ := bad_mem h
      exact ⟨x, List.mem_cons_of_mem _ hx, e⟩
    · cases h; exact ⟨r, List.mem_cons_self, rfl⟩
theorem prt_ok {n i : Nat} {d : Dt} (h : dOk n d) : dOk n (prt d i) := by
  cases d with
  | tup l =>
    show dOk n (l.getD i .non)
    rw [List.getD_eq_getElem?_getD]
    cases hx : l[i]? with
    | none => exact dok_non
    | some x => exact dok_parts (b := false) h (List.mem_of_getElem? hx)
  | _ => exact dok_non
/-- what is refused is plain -/
theorem refu_gd {K : Fg} {n m r l w c : Dt} {z : Str} {x : Dt} (hs : SixL K n m r l w c) (h : refu n m r l w c = some (z, x)) : strOkB z = true ∧ Gd x := by
  have hz : strOkB z = true := by
    rcases refu_cls h with rfl | rfl | rfl <;> decide +kernel
  refine ⟨hz, ?_⟩
  obtain ⟨hn, hm, hr, hl, hw, hc⟩ := hs
  unfold refu at h
  split at h; · cases h; exact dok_str (by decide +kernel)
  split at h; · cases h; exact dok_str (by decide +kernel)
  split at h
  · rename_i hb
    cases h
    rcases hl with hl | ⟨k, hk, rfl⟩
    · exact dok_mono hl (by decide)
    · exact absurd hb (by simp [isLabA, labD])
  split at h; · cases h; exact dok_mono hr (by decide)
  split at h; · cases h; exact dok_str (by decide +kernel)
  split at h
  · rename_i t ht
    cases h
    obtain ⟨v, hv, rfl⟩ := bad_mem ht
    have gv : dOk 22 v := by
      rcases hw with hw | rfl
      · cases w with
        | lst ws => exact dok_parts (b := true) hw hv
        | tup ws => exact dok_parts (b := false) hw hv
        | _ => cases hv
      · cases hv
    exact dok_mono (prt_ok gv) (by decide)
  · split at h
    · cases h
    · cases h; exact dok_str (by decide +kernel)
theorem refu_name {n m r l w c : Dt} (h : refu n m r l w c = none) : ∃ s, n = .str s := by
  unfold refu at h
  split at h
  · cases h
  · rename_i hb
    cases n <;> first | exact ⟨_, rfl⟩ | exact absurd rfl hb
theorem told_ok {n : Dt} {s : Str} (e : n = .str s) (h : strOkB s = true) : Okd (.tup [.str "told", n]) ∧ szB (.tup [.str "told", n]) = true ∧ (toPy (.tup [.str "told", n])).depth ≤ 6 := by
  subst e
  have : dOk 2 (.tup [.str "told", .str s]) := dok_tup (all_cons (dok_str (by decide +kernel)) (all_cons (dok_str h) all_nil)) (show 2 ≤ 100000 by decide) (by decide)
  exact dok_mono this (by decide)
theorem w_law_row_right {K : Fg} (k : KF K) (E : XK) : OkD K (tabs K) E (F_law_row_right K) 3 2 (t_law_row_right K E) := by
  rintro ds P X ⟨n, m, r, l, w, c, rfl, hs, p⟩
  refine ⟨rfl, ?_⟩
  unfold t_law_row_right sp_law_owed sp_law_heard_function sp_law_yq_same sp_law_is_refused
  show SW K _ E X _ [.val (.lst [n, m, r, l, w, c]), .emp, .emp] _ _ _ _
  walk_at "go"
  refine ⟨true, _, 0, 0, n, rfl, rfl, rfl, rfl, ?_⟩
  walk_at "go"
  refine ⟨true, _, 1, 1, m, rfl, rfl, rfl, rfl, ?_⟩
  walk_at "go"
  refine ⟨true, _, 2, 2, r, rfl, rfl, rfl, rfl, ?_⟩
  walk_at "go"
  refine ⟨true, _, 3, 3, l, rfl, rfl, rfl, rfl, ?_⟩
  walk_at "go"
  refine ⟨true, _, 4, 4, w, rfl, rfl, rfl, rfl, ?_⟩
  walk_at "go"
  refine ⟨true, _, 5, 5, c, rfl, rfl, rfl, rfl, ?_⟩
  walk_at "go"
  refine ⟨n, m, r, l, w, c, rfl, hs, ?_⟩
  walk_at "go"
  refine ⟨n, m, r, l, w, c, rfl, hs.six, ?_⟩
  cases hr : refu n m r l w c with
  | none =>
    obtain ⟨s, e⟩ := refu_name hr
    have hok := told_ok e (by rw [e] at hs; exact dok_strl hs.1)
    walk_at "go"
    refine ⟨true, _, 0, 0, n, rfl, rfl, rfl, rfl, ?_⟩
    walk_at "go"
    exact ⟨_, rfl, hok.1, hok.2.1, hok.2.2, p⟩
  | some q =>
    obtain ⟨z, x⟩ := q
    have g := refu_gd hs hr
    walk_at "go"
    refine ⟨false, _, 0, 0, .str z, rfl, rfl, rfl, rfl, ?_⟩
    walk_at "go"
    refine ⟨false, _, 1, 1, x, rfl, rfl, rfl, rfl, ?_⟩
    walk_at "go"
    exact ⟨z, x, rfl, g.1, g.2, p⟩
theorem lab_test2 {K : Fg} {E : XK} {X : XP} {Γ : List Ent} {l : Dt} {G : Bool → Prop} {i : Nat} (h0 : Γ[i]? = some (.val l)) (hl : dOk 20 l ∨ ∃ k, k < 4 ∧ l = labD K k) (hf : isLabA l = false → G false) (ht : isLabA l = true → G true) :
    ET K (tabs K) E X (tOr (tB (tCB (rIsiU K (Cs K)) (tCons (tVar i) (tCons (tC (.ref (He.ga K "Label"))) tNil)))) (tAnd (tB (tCB (rIsiU K (Cs K)) (tCons (tVar i) (tCons (tC (.ty "str")) tNil)))) (tTest (tOp (vIn K) (tVar i) (tCall (sp_law_lo_labels K) [] eN tNil))))) Γ G := by
  rcases hl with hg | ⟨k, hk, rfl⟩
  · refine t_or (t_val (x_isObj (by simp [Cs]) (b_var h0 ⟨dok_ty hg, ?_⟩)))
    rw [tObj_no hg]
    refine of ?_
    refine t_and (t_val (x_isStr (b_var h0 ⟨dok_ty hg, bb (fun h => ?_) fun h => ?_⟩)))
    · obtain ⟨s, rfl⟩ : ∃ s, l = .str s := by cases l <;> first | exact ⟨_, rfl⟩ | cases h
      unfold sp_law_lo_labels
      refine t_test (x_in (b_var h0 (EX.eb (x_callP (a_nil ⟨rfl, lbs.map .str, .inr rfl, hg.1, okd_lbsL, ?_⟩)))))
      rw [any_lbs]
      cases hd : decide (s ∈ lbs) with
      | true => exact ⟨_, rfl, ht hd⟩
      | false => exact ⟨_, rfl, hf hd⟩
    · cases l <;> first | (cases h; done) | exact hf rfl | exact absurd hg.1.1 (by simp [plainB])
  · refine t_or (t_val (x_isObj (by simp [Cs]) (b_var h0 ⟨lab_ty, ?_⟩)))
    rw [tObj_lab]
    exact ot (ht rfl)
theorem refu_lab {n m r l l' w c : Dt} (h : isLabA l = true) (h' : isLabA l' = true) : refu n m r l w c = refu n m r l' w c := by
  simp [refu, h, h']
def goodR : Dt := .tup [.str "plus", .int 1, .tup [.str "cell", .str "z"]]
def goodW : List Dt := [.tup [.str "z", .int 1], .tup [.str "y", .tup [.str "tick"]]]
theorem good_eq (a : Int) : goodD a = [.str "f", .int a, goodR, .str "changing", .lst goodW, .int 7] := rfl
theorem goodR_ok : dOk 19 goodR := dok_mono (n := 3) (dok_tup (all_cons (dok_str (by decide +kernel)) (all_cons (dok_int _) (all_cons (dok_tup (all_cons (dok_str (by decide +kernel)) (all_cons (dok_str (by decide +kernel)) all_nil)) (by decide) (by decide)) all_nil))) (by decide) (by decide)) (by decide)
theorem goodW_all : ∀ d ∈ goodW, dOk 4 d := all_cons (dok_tup (all_cons (dok_str (by decide +kernel)) (all_cons (dok_int _) all_nil)) (by decide) (by decide)) (all_cons (dok_tup (all_cons (dok_str (by decide +kernel)) (all_cons (dok_tup (n := 2) (all_cons (dok_str (by decide +kernel)) all_nil) (by decide) (by decide)) all_nil)) (by decide) (by decide)) all_nil)
theorem goodW_ok : dOk 22 (.lst goodW) := dok_mono (n := 5) (dok_lst goodW_all (by decide) (by decide)) (by decide)
theorem goodW_okT : dOk 22 (.tup goodW) := dok_mono (n := 5) (dok_tup goodW_all (by decide) (by decide)) (by decide)
theorem f_ok : dOk 20 (.str "f") := dok_str (by decide +kernel)
theorem ch_ok : dOk 20 (.str "changing") := dok_str (by decide +kernel)
/-- a row of six arguments -/
def RowOk (K : Fg) (L : List Dt) : Prop := ∃ n m r l w c, L = [n, m, r, l, w, c] ∧ SixL K n m r l w c
theorem good_row {K : Fg} {a : Int} : RowOk K (goodD a) := ⟨_, _, _, _, _, _, good_eq a, f_ok, dok_int _, dok_mono goodR_ok (by decide), .inl ch_ok, .inl goodW_ok, dok_int _⟩
theorem odds_six {K : Fg} {O : List (List Dt)} (h : OddsOk K O) : O.length = 6 := by
  obtain ⟨o0, o1, o2, o3, o4, o5, rfl, _⟩ := h; rfl
theorem row_set {K : Fg} {L : List Dt} {O : List (List Dt)} {i : Nat} {o : List Dt} {x : Dt} (h : RowOk K L) (hO : OddsOk K O) (hi : O[i]? = some o) (hx : x ∈ o) : RowOk K (L.set i x) := by
  obtain ⟨o0, o1, o2, o3, o4, o5, rfl, _, h0, h1, h2, h3, h4, h5⟩ := hO
  obtain ⟨n, m, r, l, w, c, rfl, gn, gm, gr, gl, gw, gc⟩ := h
  match i, hi with
  | 0, hi => cases hi; exact ⟨_, _, _, _, _, _, rfl, h0 x hx, gm, gr, gl, gw, gc⟩
  | 1, hi => cases hi; exact ⟨_, _, _, _, _, _, rfl, gn, h1 x hx, gr, gl, gw, gc⟩
  | 2, hi => cases hi; exact ⟨_, _, _, _, _, _, rfl, gn, gm, h2 x hx, gl, gw, gc⟩
  | 3, hi => cases hi; exact ⟨_, _, _, _, _, _, rfl, gn, gm, gr, h3 x hx, gw, gc⟩
  | 4, hi => cases hi; exact ⟨_, _, _, _, _, _, rfl, gn, gm, gr, gl, h4 x hx, gc⟩
  | 5, hi => cases hi; exact ⟨_, _, _, _, _, _, rfl, gn, gm, gr, gl, gw, h5 x hx⟩
  | i + 6, hi => simp at hi
theorem row_len {K : Fg} {L : List Dt} (h : RowOk K L) : L.length = 6 := by
  obtain ⟨n, m, r, l, w, c, rfl, _⟩ := h; rfl
theorem cut_set {L : List Dt} {i : Nat} {x : Dt} (h : i < L.length) : L.take i ++ [x] ++ L.drop (i + 1) = L.set i x := by
  rw [List.set_eq_take_append_cons_drop, if_pos h, List.append_assoc]; rfl
/-- row[:i] + [x] + row[i + 1:] -/
theorem x_row {K : Fg} {T : Tbl} {E : XK} {X : XP} {Γ : List Ent} {P : Dt → Prop} {tr : TA} {s t i : Nat} {L : List Dt} (h1 : Γ[s]? = some (.val (.lst L))) (h2 : Γ[t]? = some (.val (.int (i : Nat)))) (hi : i < L.length) (hl : L.length ≤ 100)
    (h : EA K T E X tr Γ fun ds => ∃ x, ds = [x] ∧ P (.lst (L.set i x))) :
    EX K T E X (tOp (uAdd K) (tOp (uAdd K) (tSl (uSl K) (tVar s) tNoPart (tPart (tVar t))) (tLst tr)) (tSl (uSl K) (tVar s) (tPart (tOp (uAdd K) (tVar t) (tC (.int 1)))) tNoPart)) Γ P := by
  refine x_l (l_catM (EL.em (l_catM (EL.em (l_sl (b_var h1 (o_no (o_at (x_var h2 ⟨_, rfl, L, rfl, ?_⟩)))))))))
  refine EL.em (l_lst ?_)
  intro S0 J σ H r xo Q q
  refine h S0 J σ H r xo Q fun vs ds H2 ⟨x, e, p⟩ r2 n2 rl => q vs ds H2 ?_ r2 n2 rl
  subst e
  refine ⟨small (show 1 ≤ 100000 by decide), ?_, ?_⟩
  · rw [cut_take, List.length_take]; exact small (by show _ + 1 ≤ 100000; omega)
  · refine EL.em (l_sl (b_var h1 (o_at (x_add (x_var h2 (x_int ⟨_, _, rfl, rfl, _, rfl, o_no ⟨L, rfl, ?_⟩⟩))))))
    rw [show ((i : Nat) : Int) + 1 = ((i + 1 : Nat) : Int) from rfl, cut_take, cut_drop, cut_set hi]
    refine ⟨?_, p⟩
    rw [List.length_append, List.length_take, List.length_drop]
    exact small (by show _ + 1 + _ ≤ 100000; omega)
end Lp.Q

set_option Elab.async false
set_option linter.all false
set_option maxRecDepth 100000
set_option maxHeartbeats 4000000
/-! k04W9: changes, all of a function, the law. Own work. -/
namespace Lp.Q
open PySem PySem.Spec PyProof.Rows L2 LamX Lp
local macro_rules | `(tactic| walk_at "lp") => `(tactic| first
  | with_reducible refine s_seq ?_
  | with_reducible refine s_if ?_
  | with_reducible refine s_ret ?_
  | with_reducible refine s_next ?_
  | with_reducible refine s_asg ?_
  | with_reducible refine t_test ?_
  | with_reducible refine t_val ?_
  | with_reducible refine t_and ?_
  | with_reducible refine t_or ?_
  | with_reducible refine t_not ?_
  | ((with_reducible apply x_var); (focus rfl))
  | with_reducible refine x_non ?_
  | with_reducible refine x_bl ?_
  | with_reducible refine x_int ?_
  | with_reducible refine x_str ?_
  | with_reducible refine x_and ?_
  | with_reducible refine x_or ?_
  | with_reducible refine x_not ?_
  | with_reducible refine x_if ?_
  | with_reducible refine x_isInt ?_
  | with_reducible refine x_isBool ?_
  | with_reducible refine x_isStr ?_
  | with_reducible refine x_isTup ?_
  | with_reducible refine x_isLst ?_
  | with_reducible refine x_isDct ?_
  | ((with_reducible refine x_isObj ?_ ?_); (focus (simp [Cs])))
  | with_reducible refine x_isi2 ?_
  | with_reducible refine x_len ?_
  | with_reducible refine x_eq ?_
  | with_reducible refine x_ne ?_
  | with_reducible refine x_ix ?_
  | with_reducible refine x_fld ?_
  | with_reducible refine x_tup ?_
  | with_reducible refine x_call ?_
  | with_reducible refine x_make ?_
  | with_reducible refine x_meth ?_
  | with_reducible refine x_makeN ?_
  | with_reducible refine x_callP ?_
  | with_reducible refine x_makeP ?_
  | with_reducible refine x_makeNP ?_
  | with_reducible refine x_sum ?_
  | with_reducible refine i_rng3 ?_
  | with_reducible refine x_methP ?_
  | ((with_reducible apply x_callJ); (focus rfl))
  | with_reducible refine a_cons ?_
  | with_reducible refine a_nil ?_
  | ((with_reducible apply b_own); (focus rfl))
  | ((with_reducible apply b_var); (focus rfl))
  | with_reducible refine EX.eb ?_
  | with_reducible refine l_list ?_
  | with_reducible refine l_lst ?_
  | with_reducible refine l_revL ?_
  | with_reducible refine l_sortS ?_
  | with_reducible refine i_u ?_
  | with_reducible refine i_rng1 ?_
  | with_reducible refine i_rng2 ?_
  | with_reducible refine i_enum ?_
  | with_reducible refine x_isNB ?_
  | with_reducible refine x_notNB ?_
  | with_reducible refine x_tuple ?_
  | with_reducible refine x_int1 ?_
  | with_reducible refine x_bool1 ?_
  | with_reducible refine x_str1 ?_
  | with_reducible refine x_max2 ?_
  | with_reducible refine x_sub ?_
  | with_reducible refine x_mod ?_
  | with_reducible refine x_fdiv ?_
  | with_reducible refine x_pow ?_
  | with_reducible refine x_gt ?_
  | with_reducible refine x_ge ?_
  | with_reducible refine x_le ?_
  | with_reducible refine x_neg ?_
  | with_reducible refine s_retN ?_
  | with_reducible refine s_raise ?_
  | with_reducible refine s_brk ?_
  | with_reducible refine s_ct ?_
  | with_reducible refine le_le ?_
  | with_reducible refine le_lt ?_
  | with_reducible refine o_no ?_
  | with_reducible refine tyes ?_
  | with_reducible refine x_l_lst ?_
  | with_reducible refine x_l_lc ?_
  | with_reducible refine x_l_list ?_
  | with_reducible refine x_l_sort ?_
  | with_reducible refine x_l_rev ?_
  | with_reducible refine o_at ?_)
local macro_rules | `(tactic| walk_at "an") => `(tactic| first
  | refine ⟨small (Nat.le_of_ble_eq_true rfl), ?_⟩
  | refine ⟨trivial, ?_⟩
  | refine ⟨_, _, rfl, rfl, ?_⟩
  | refine bt ?_
  | refine bf ?_
  | refine nbt ?_
  | refine nbf ?_
  | refine ot ?_
  | refine of ?_
  | refine not_ ?_
  | refine nof ?_
  | refine ⟨true, _, rfl, ?_⟩
  | refine ⟨false, _, rfl, ?_⟩
  | refine .inl ⟨true, _, rfl, ?_⟩
  | refine .inl ⟨false, _, rfl, ?_⟩
  | refine ct ?_
  | refine cf ?_
  | refine ct' ?_
  | refine cf' ?_
  | (refine ⟨okd_int _, okd_int _, ?_⟩; rw [eqD_I]; try rw [dec_refl])
  | (refine ⟨okd_bl _, okd_bl _, ?_⟩; rw [eqD_B]; try rw [dec_refl]))
local macro_rules | `(tactic| walk_at "go") => `(tactic| repeat (first | walk_at "lp" | walk_at "an"))
def bodyC (K : Fg) : TS := (tSeq (tAsg (tOp (uAdd K) (tOp (uAdd K) (tSl (uSl K) (tVar 2) tNoPart (tPart (tVar 4))) (tLst (tCons (tVar 6) tNil))) (tSl (uSl K) (tVar 2) (tPart (tOp (uAdd K) (tVar 4) (tC (.int 1)))) tNoPart)) (gName 7))
    (tSeq (tAsg (tCall (sp_law_owed K) [] eN (tCons (tOp (rIx K) (tVar 7) (tC (.int 0))) (tCons (tOp (rIx K) (tVar 7) (tC (.int 1))) (tCons (tOp (rIx K) (tVar 7) (tC (.int 2))) (tCons (tOp (rIx K) (tVar 7) (tC (.int 3))) (tCons (tOp (rIx K) (tVar 7) (tC (.int 4))) (tCons (tOp (rIx K) (tVar 7) (tC (.int 5))) tNil))))))) (gName 8))
    (tSeq (tAsg (tCall (sp_law_heard_changed K) [] eN (tCons (tVar 1) (tCons (tVar 5) (tCons (tVar 6) tNil)))) (gName 9))
    (tSeq (tIfS (tAnd (tTest (tOp uIsN (tVar 8) (tC .non))) (tNot (tB (tCall (sp_law_yq_same 7 K) [] eN (tCons (tVar 9) (tCons (tTup (tCons (tC (.str "told")) (tCons (tOp (rIx K) (tVar 2) (tC (.int 0))) tNil))) tNil)))))) (tRet (tC (.bl false))) tNext)
    (tIfS (tAnd (tTest (tOp uNotN (tVar 8) (tC .non))) (tNot (tB (tCall (sp_law_is_refused K) [] eN (tCons (tVar 9) (tCons (tOp (rIx K) (tVar 8) (tC (.int 0))) (tCons (tOp (rIx K) (tVar 8) (tC (.int 1))) tNil))))))) (tRet (tC (.bl false))) tNext)))))
def bodyL (K : Fg) : TS := (tSeq (tAsg (tCall (sp_law_heard_labelled K) [] eN (tCons (tVar 1) (tCons (tVar 6) tNil))) (gName 9))
    (tIfS (tOr (tB (tCB (rIsiU K (Cs K)) (tCons (tVar 6) (tCons (tC (.ref (He.ga K "Label"))) tNil)))) (tAnd (tB (tCB (rIsiU K (Cs K)) (tCons (tVar 6) (tCons (tC (.ty "str")) tNil)))) (tTest (tOp (vIn K) (tVar 6) (tCall (sp_law_lo_labels K) [] eN tNil))))) (tIfS (tNot (tB (tCall (sp_law_yq_same 7 K) [] eN (tCons (tVar 9) (tCons (tTup (tCons (tC (.str "told")) (tCons (tOp (rIx K) (tVar 2) (tC (.int 0))) tNil))) tNil))))) (tRet (tC (.bl false))) tNext) (tIfS (tNot (tB (tCall (sp_law_is_refused K) [] eN (tCons (tVar 9) (tCons (tC (.str "BadLabel")) (tCons (tVar 6) tNil)))))) (tRet (tC (.bl false))) tNext)))
def bodyF (K : Fg) : TS := (tSeq (tAsg (tOp (uAdd K) (tOp (uAdd K) (tSl (uSl K) (tVar 2) tNoPart (tPart (tVar 4))) (tLst (tCons (tVar 5) tNil))) (tSl (uSl K) (tVar 2) (tPart (tOp (uAdd K) (tVar 4) (tC (.int 1)))) tNoPart)) (gName 6))
    (tSeq (tAsg (tCall (sp_law_take K) [] eN (tCons (tVar 0) (tCons (tC (.int 6)) tNil))) (gName 7))
    (tSeq (tAsg (tIf (tTest (tOp (uNe K) (tVar 7) (tVar 4))) (tOp (uAdd K) (tOp (uAdd K) (tSl (uSl K) (tVar 6) tNoPart (tPart (tVar 7))) (tLst (tCons (tCall (sp_law_one K) [] eN (tCons (tVar 0) (tCons (tOp (rIx K) (tVar 3) (tVar 7)) tNil))) tNil))) (tSl (uSl K) (tVar 6) (tPart (tOp (uAdd K) (tVar 7) (tC (.int 1)))) tNoPart)) (tVar 6)) (gName 8))
    (tIfS (tOr (tNot (tB (tCall (sp_law_row_right K) [] eN (tCons (tVar 6) tNil)))) (tNot (tB (tCall (sp_law_row_right K) [] eN (tCons (tVar 8) tNil))))) (tRet (tC (.bl false))) tNext))))
theorem term_good {a : Int} : termB a goodR = true := by rfl
theorem wr_good : wrB (.lst goodW) = true := by decide +kernel
theorem refu_good {a : Int} {l : Dt} (h0 : 0 ≤ a) (h2 : a ≤ 2) : refu (.str "f") (.int a) goodR l (.tup goodW) (.int 7) = if isLabA l then none else some (("BadLabel" : Str), l) := by
  have hn : isNmB (.str "f") = true := by decide +kernel
  have hm : btwB (.int a) 0 2 = true := by
    rw [btw_int, decide_eq_true h0, decide_eq_true h2]; rfl
  have hw : wrB (.tup goodW) = true := wr_good
  have hb : badW a goodW = none := by rfl
  have hc : btwB (.int 7) 0 99 = true := by decide
  cases h : isLabA l <;> simp [refu, hn, hm, h, intOf, term_good, hw, itemsD, hb, hc]
/-- slots of the law's own names -/
def Fr (K : Fg) (j : Addr) (a : Int) (O : List (List Dt)) (Γ : List Ent) : Prop := ∃ e4 e5 e6 e7 e8 e9, Γ = [.jar j, .val (madeD K a), .val (.lst (goodD a)), .val (.lst (O.map .lst)), e4, e5, e6, e7, e8, e9] ∧ noOwn Γ 4 = true ∧ noOwn Γ 5 = true ∧ noOwn Γ 6 = true
theorem body_c {K : Fg} {E : XK} {j : Addr} {a : Int} {O : List (List Dt)} {d n m r l w c : Dt} {ix : Nat} {part : Str} {e7 e8 e9 : Ent} {N : List Ent → Prop} {R : Rt → List Ent → Prop} {B C : List Ent → Prop} (hix : ix < 6)
    (hrow : (goodD a).set ix d = [n, m, r, l, w, c]) (hs : SixL K n m r l w c) (hn : n = .str "f") (hh : ∀ P' : Rt → Prop, P' (.val (tellD (refu n m r l w c) (.tup [.str "told", .str "f"]))) → F_law_heard_changed K [madeD K a, .str part, d] P' noX)
    (p : ∀ e7 e8 e9, N [.jar j, .val (madeD K a), .val (.lst (goodD a)), .val (.lst (O.map .lst)), .val (.int (ix : Nat)), .val (.str part), .val d, e7, e8, e9]) : SW K (tabs K) E noX (bodyC K) [.jar j, .val (madeD K a), .val (.lst (goodD a)), .val (.lst (O.map .lst)), .val (.int (ix : Nat)), .val (.str part), .val d, e7, e8, e9] N R B C := by
  unfold bodyC sp_law_owed sp_law_heard_changed sp_law_yq_same sp_law_is_refused
  refine s_seq (s_asg (x_row rfl rfl hix (by show 6 ≤ 100; decide) (a_cons (x_var rfl (a_nil ⟨d, rfl, ?_⟩)))))
  rw [hrow]
  walk_at "go"
  refine ⟨true, _, 0, 0, n, rfl, rfl, rfl, rfl, ?_⟩
  walk_at "go"
  refine ⟨true, _, 1, 1, m, rfl, rfl, rfl, rfl, ?_⟩
  walk_at "go"
  refine ⟨true, _, 2, 2, r, rfl, rfl, rfl, rfl, ?_⟩
  walk_at "go"
  refine ⟨true, _, 3, 3, l, rfl, rfl, rfl, rfl, ?_⟩
  walk_at "go"
  refine ⟨true, _, 4, 4, w, rfl, rfl, rfl, rfl, ?_⟩
  walk_at "go"
  refine ⟨true, _, 5, 5, c, rfl, rfl, rfl, rfl, ?_⟩
  walk_at "go"
  refine ⟨n, m, r, l, w, c, rfl, hs, ?_⟩
  walk_at "go"
  refine hh _ ?_
  cases hr : refu n m r l w c with
  | none =>
    have hok := told_ok (n := .str "f") rfl (by decide +kernel)
    walk_at "go"
    refine ⟨true, _, 0, 0, .str "f", rfl, rfl, rfl, rfl, ?_⟩
    walk_at "go"
    refine ⟨_, rfl, hok.1, hok.2.1, hok.2.2, ?_⟩
    walk_at "go"
    exact p _ _ _
  | some q =>
    obtain ⟨z, x⟩ := q
    have g := refu_gd hs hr
    walk_at "go"
    refine ⟨false, _, 0, 0, .str z, rfl, rfl, rfl, rfl, ?_⟩
    walk_at "go"
    refine ⟨false, _, 1, 1, x, rfl, rfl, rfl, rfl, ?_⟩
    walk_at "go"
    refine ⟨z, x, rfl, g.1, g.2, ?_⟩
    walk_at "go"
    exact p _ _ _
theorem odds_at {K : Fg} {O : List (List Dt)} (h : OddsOk K O) {i : Nat} (hi : i < 6) : ∃ o, O[i]? = some o ∧ (O.map Dt.lst)[i]? = some (.lst o) ∧ o ≠ [] ∧ o.length ≤ 100 := by
  have hl := odds_six h
  refine ⟨O[i], List.getElem?_eq_getElem (by omega), by rw [List.getElem?_map, List.getElem?_eq_getElem (by omega)]; rfl, ?_⟩
  obtain ⟨_, _, _, _, _, _, _, ho, _⟩ := h
  exact ho _ (List.getElem_mem _)
theorem made_six {K : Fg} {a : Int} {r l w c : Dt} (h : Six K (.str "f") (.int a) r l w c) : Six K (.str "f") (.int a) r l w c := h
theorem body_l {K : Fg} {E : XK} {j : Addr} {a : Int} {O : List (List Dt)} {d : Dt} {e4 e5 e7 e8 e9 : Ent} {N : List Ent → Prop} {R : Rt → List Ent → Prop} {B C : List Ent → Prop} (h0 : 0 ≤ a) (h2 : a ≤ 2)
    (hd : dOk 20 d ∨ ∃ k, k < 4 ∧ d = labD K k) (n4 : noOwn [.jar j, .val (madeD K a), .val (.lst (goodD a)), .val (.lst (O.map .lst)), e4, e5, .val d, e7, e8, e9] 4 = true) (n5 : noOwn [.jar j, .val (madeD K a), .val (.lst (goodD a)), .val (.lst (O.map .lst)), e4, e5, .val d, e7, e8, e9] 5 = true)
    (p : ∀ Γ', Fr K j a O Γ' → N Γ') : SW K (tabs K) E noX (bodyL K) [.jar j, .val (madeD K a), .val (.lst (goodD a)), .val (.lst (O.map .lst)), e4, e5, .val d, e7, e8, e9] N R B C := by
  unfold bodyL sp_law_heard_labelled sp_law_yq_same sp_law_is_refused
  walk_at "go"
  have six : Six K (.str "f") (.int a) goodR d (.tup goodW) (.int 7) := ⟨dok_mono f_ok (by decide), dok_int _, dok_mono goodR_ok (by decide), hd.imp (fun z => dok_mono z (by decide)) id, .inl (dok_mono goodW_okT (by decide)), dok_int _⟩
  refine ⟨.str "f", .int a, goodR, 3, goodW, .int 7, d, rfl, six, ?_⟩
  rw [refu_good h0 h2]
  refine s_if (lab_test2 rfl hd (fun hb => ⟨fun z => (nomatch z), fun _ => ?_⟩) fun hb => ⟨fun _ => ?_, fun z => (nomatch z)⟩)
  · rw [if_neg (by simp [hb])]
    have gd : Gd d := by
      rcases hd with hd | ⟨k, hk, rfl⟩
      · exact dok_mono hd (by decide)
      · exact absurd hb (by simp [isLabA, labD])
    walk_at "go"
    refine ⟨"BadLabel", d, rfl, by decide +kernel, gd, ?_⟩
    walk_at "go"
    exact p _ ⟨_, _, _, _, _, _, rfl, n4, n5, rfl⟩
  · rw [if_pos hb]
    have hok := told_ok (n := .str "f") rfl (by decide +kernel)
    walk_at "go"
    refine ⟨true, _, 0, 0, .str "f", rfl, rfl, rfl, rfl, ?_⟩
    walk_at "go"
    refine ⟨_, rfl, hok.1, hok.2.1, hok.2.2, ?_⟩
    walk_at "go"
    exact p _ ⟨_, _, _, _, _, _, rfl, n4, n5, rfl⟩
theorem w_law_changes_right {K : Fg} (k : KF K) : OkJ K (tabs K) (F_law_changes_right K) 10 6 (t_law_changes_right K eN) := by
  rintro E j ds P ⟨a, O, rfl, h0, h2, hO, p⟩
  refine ⟨rfl, ?_⟩
  unfold t_law_changes_right
  show SW K _ E _ _ [.jar j, .val (madeD K a), .val (.lst (goodD a)), .val (.lst (O.map .lst)), .emp, .emp, .emp, .emp, .emp, .emp] _ _ _ _
  have hl6 := odds_six hO
  refine s_seq (s_for ?_)
  walk_at "go"
  refine ⟨fun _ Γ' => Fr K j a O Γ', [4, 5], ⟨.emp, .emp, .emp, .emp, .emp, .emp, rfl, rfl, rfl, rfl⟩, fun i d Γ' hd iv => ?_, fun Γ' iv => ?_⟩
  · obtain ⟨e4, e5, e6, e7, e8, e9, rfl, n4, n5, n6⟩ := iv
    have inner : ∀ (ix : Nat) (part : Str), ix < 6 → 2 ≤ ix → (∀ d n m r l w c, (goodD a).set ix d = [n, m, r, l, w, c] → SixL K n m r l w c → ∀ P' : Rt → Prop, P' (.val (tellD (refu n m r l w c) (.tup [.str "told", .str "f"]))) → F_law_heard_changed K [madeD K a, .str part, d] P' noX) →
        SG K (tabs K) E noX (gTup K 2 (gCons (gName 4) (gCons (gName 5) gNil))) (.tup [.int (ix : Nat), .str part]) [4, 5] [.jar j, .val (madeD K a), .val (.lst (goodD a)), .val (.lst (O.map .lst)), e4, e5, e6, e7, e8, e9]
          fun Γ2 => SW K (tabs K) E noX (tFor (iU K (tOp (rIx K) (tVar 3) (tVar 4))) (gName 6) (bodyC K)) Γ2 (Fr K j a O) (fun r x => P r) (fun Γ' => SW K (tabs K) E noX (tSeq (tFor (iU K (tOp (rIx K) (tVar 3) (tC (.int 3)))) (gName 6) (bodyL K)) (tRet (tC (.bl true)))) Γ' (fun _ => P (.val .non)) (fun r x => P r) (fun _ => False) (fun _ => False)) (Fr K j a O) := fun ix part hix hix2 hh => by
      refine g_p (p_tup rfl (ps_cons (p_name (by simp) n4 (ps_cons (p_name (by simp) n5 (ps_nil ?_))))))
      obtain ⟨o, ho, hom, _, _⟩ := odds_at hO hix
      refine s_for ?_
      walk_at "go"
      refine ⟨true, _, ix, ix, .lst o, rfl, rfl, ixN_of (by rw [List.length_map]; omega), hom, .inl ⟨true, o, rfl, fun _ Γ' => ∃ e6 e7 e8 e9, Γ' = [.jar j, .val (madeD K a), .val (.lst (goodD a)), .val (.lst (O.map .lst)), .val (.int (ix : Nat)), .val (.str part), e6, e7, e8, e9] ∧ noOwn Γ' 6 = true, [6], ⟨e6, e7, e8, e9, rfl, n6⟩, fun i d Γ' hd iv => ?_, fun Γ' iv => ?_⟩⟩
      · obtain ⟨e6, e7, e8, e9, rfl, n6⟩ := iv
        refine g_p (p_name (by simp) n6 ?_)
        obtain ⟨n, m, r, l, w, c, hrow, hs⟩ := row_set (i := ix) (good_row (K := K) (a := a)) hO ho (List.mem_of_getElem? hd)
        have hn : n = .str "f" := by
          have : ((goodD a).set ix d)[0]? = some (.str "f") := by
            rw [List.getElem?_set_ne (by omega)]; rfl
          rw [hrow] at this
          cases this; rfl
        exact body_c hix hrow hs hn (hh d n m r l w c hrow hs) fun e7 e8 e9 => ⟨_, _, _, _, rfl, rfl⟩
      · obtain ⟨e6, e7, e8, e9, rfl, n6⟩ := iv
        exact ⟨_, _, _, _, _, _, rfl, rfl, rfl, n6⟩
    have lab3 : isLabA (.str "changing") = true := by decide +kernel
    match i, hd with
    | 0, hd =>
      cases hd
      refine inner 2 "result" (by decide) (by decide) fun d n m r l w c hrow hs P' hp => ?_
      have hrow : [.str "f", .int a, d, .str "changing", .lst goodW, .int 7] = [n, m, r, l, w, c] := hrow
      cases hrow
      rw [refu_lab (l' := labD K 3) lab3 rfl] at hp
      have hs := hs.six
      exact ⟨.str "f", .int a, goodR, 3, goodW, .int 7, "result", d, rfl, by decide, .inl ⟨rfl, ⟨hs.1, hs.2.1, hs.2.2.1, .inr ⟨3, by decide, rfl⟩, .inl (dok_mono goodW_okT (by decide)), hs.2.2.2.2.2⟩, hp⟩⟩
    | 1, hd =>
      cases hd
      refine inner 4 "writes" (by decide) (by decide) fun d n m r l w c hrow hs P' hp => ?_
      have hrow : [.str "f", .int a, goodR, .str "changing", d, .int 7] = [n, m, r, l, w, c] := hrow
      cases hrow
      rw [refu_lab (l' := labD K 3) lab3 rfl] at hp
      have hs := hs.six
      exact ⟨.str "f", .int a, goodR, 3, goodW, .int 7, "writes", d, rfl, by decide, .inr (.inl ⟨rfl, ⟨hs.1, hs.2.1, hs.2.2.1, .inr ⟨3, by decide, rfl⟩, hs.2.2.2.2.1, hs.2.2.2.2.2⟩, hp⟩)⟩
    | 2, hd =>
      cases hd
      refine inner 5 "cost" (by decide) (by decide) fun d n m r l w c hrow hs P' hp => ?_
      have hrow : [.str "f", .int a, goodR, .str "changing", .lst goodW, d] = [n, m, r, l, w, c] := hrow
      cases hrow
      rw [refu_lab (l' := labD K 3) lab3 rfl] at hp
      have hs := hs.six
      exact ⟨.str "f", .int a, goodR, 3, goodW, .int 7, "cost", d, rfl, by decide, .inr (.inr ⟨rfl, ⟨hs.1, hs.2.1, hs.2.2.1, .inr ⟨3, by decide, rfl⟩, .inl (dok_mono goodW_okT (by decide)), hs.2.2.2.2.2⟩, hp⟩)⟩
    | i + 3, hd => simp at hd
  · obtain ⟨e4, e5, e6, e7, e8, e9, rfl, n4, n5, n6⟩ := iv
    obtain ⟨o, ho, hom, _, _⟩ := odds_at hO (show 3 < 6 by decide)
    have h3 : ∀ d ∈ o, dOk 20 d ∨ ∃ k, k < 4 ∧ d = labD K k := by
      obtain ⟨o0, o1, o2, o3, o4, o5, rfl, _, _, _, _, h3, _⟩ := hO
      cases ho
      exact h3
    refine s_seq (s_for ?_)
    walk_at "go"
    refine ⟨true, _, 3, 3, .lst o, rfl, rfl, ixN_of (k := 3) (by rw [List.length_map]; omega), hom, .inl ⟨true, o, rfl, fun _ Γ' => Fr K j a O Γ', [6], ⟨_, _, _, _, _, _, rfl, n4, n5, n6⟩, fun i d Γ' hd iv => ?_, fun Γ' iv => ?_⟩⟩
    · obtain ⟨e4, e5, e6, e7, e8, e9, rfl, n4, n5, n6⟩ := iv
      refine g_p (p_name (by simp) n6 ?_)
      exact body_l h0 h2 (h3 d (List.mem_of_getElem? hd)) n4 n5 fun Γ' h => h
    · obtain ⟨e4, e5, e6, e7, e8, e9, rfl, n4, n5, n6⟩ := iv
      walk_at "go"
      exact p
theorem body_f {K : Fg} (k : KF K) {E : XK} {j : Addr} {a : Int} {O : List (List Dt)} {d : Dt} {i : Nat} {o : List Dt} {e6 e7 e8 : Ent} {N : List Ent → Prop} {R : Rt → List Ent → Prop} {B C : List Ent → Prop} (hi : i < 6) (hO : OddsOk K O) (ho : O[i]? = some o) (hd : d ∈ o)
    (p : ∀ e6 e7 e8, noOwn [.jar j, .val (.int a), .val (.lst (goodD a)), .val (.lst (O.map .lst)), .val (.int (i : Nat)), .val d, .val e6, .val e7, .val e8, .emp, .emp, .emp, .emp] 5 = true → N [.jar j, .val (.int a), .val (.lst (goodD a)), .val (.lst (O.map .lst)), .val (.int (i : Nat)), .val d, .val e6, .val e7, .val e8, .emp, .emp, .emp, .emp]) :
    SW K (tabs K) E noX (bodyF K) [.jar j, .val (.int a), .val (.lst (goodD a)), .val (.lst (O.map .lst)), .val (.int (i : Nat)), .val d, e6, e7, e8, .emp, .emp, .emp, .emp] N R B C := by
  unfold bodyF sp_law_take sp_law_one sp_law_row_right
  have hl6 := odds_six hO
  have r1 : RowOk K ((goodD a).set i d) := row_set (good_row (K := K) (a := a)) hO ho hd
  refine s_seq (s_asg (x_row rfl rfl hi (by show 6 ≤ 100; decide) (a_cons (x_var rfl (a_nil ⟨d, rfl, ?_⟩)))))
  generalize (goodD a).set i d = L1 at r1 ⊢
  have l1 := row_len r1
  walk_at "go"
  refine ⟨6, rfl, by decide, by decide, fun q hq1 hq2 => ?_⟩
  obtain ⟨m, rfl⟩ := Int.eq_ofNat_of_zero_le hq1
  have hm : m < 6 := by omega
  obtain ⟨om, hom, homm, hne, hlen⟩ := odds_at hO hm
  have fin : ∀ L2 : List Dt, RowOk K L2 → SW K (tabs K) E noX (tIfS (tOr (tNot (tB (tCall (spD K (tabs K) (F_law_row_right K)) [] eN (tCons (tVar 6) tNil)))) (tNot (tB (tCall (spD K (tabs K) (F_law_row_right K)) [] eN (tCons (tVar 8) tNil))))) (tRet (tC (.bl false))) tNext)
      [.jar j, .val (.int a), .val (.lst (goodD a)), .val (.lst (O.map .lst)), .val (.int (i : Nat)), .val d, .val (.lst L1), .val (.int (m : Nat)), .val (.lst L2), .emp, .emp, .emp, .emp] N R B C := fun L2 r2 => by
    obtain ⟨n, m', r, l, w, c, rfl, hs⟩ := r1
    obtain ⟨n2, m2, r2, l2, w2, c2, rfl, hs2⟩ := r2
    walk_at "go"
    refine ⟨n, m', r, l, w, c, rfl, hs, ?_⟩
    walk_at "go"
    refine ⟨n2, m2, r2, l2, w2, c2, rfl, hs2, ?_⟩
    walk_at "go"
    exact p _ _ _ rfl
  walk_at "go"
  refine ⟨okd_int _, okd_int _, ?_⟩
  generalize eqD (Rt.val (Dt.int (m : Nat))).dt (Dt.int (i : Nat)) = b
  refine bb (fun hq => ?_) fun hq => ?_
  · refine x_row rfl rfl (by rw [l1]; exact hm) (by rw [l1]; decide) ?_
    walk_at "go"
    refine ⟨true, _, m, m, .lst om, rfl, rfl, ixN_of (by rw [List.length_map]; omega), homm, ?_⟩
    walk_at "go"
    refine ⟨hne, by omega, fun x hx => ?_⟩
    walk_at "go"
    exact ⟨x, rfl, fin _ (row_set r1 hO hom hx)⟩
  · exact x_var rfl (fin L1 r1)
theorem w_law_function_right {K : Fg} (k : KF K) : OkJ K (tabs K) (F_law_function_right K) 13 12 (t_law_function_right K eN) := by
  rintro E j ds P ⟨rfl, p⟩
  refine ⟨rfl, ?_⟩
  unfold t_law_function_right sp_law_take sp_law_odds
  show SW K _ E _ _ [.jar j, .emp, .emp, .emp, .emp, .emp, .emp, .emp, .emp, .emp, .emp, .emp, .emp] _ _ _ _
  walk_at "go"
  refine ⟨3, rfl, by decide, by decide, fun a h0 h2 => ?_⟩
  walk_at "go"
  refine ⟨a, rfl, fun O hO => ?_⟩
  have hl6 := odds_six hO
  show SW K _ E _ _ [.jar j, .val (.int a), .val (.lst (goodD a)), .val (.lst (O.map .lst)), .emp, .emp, .emp, .emp, .emp, .emp, .emp, .emp, .emp] _ _ _ _
  refine s_seq (s_for ?_)
  walk_at "go"
  refine ⟨_, rfl, by decide, by decide, fun _ Γ' => ∃ e4 e5 e6 e7 e8, Γ' = [.jar j, .val (.int a), .val (.lst (goodD a)), .val (.lst (O.map .lst)), e4, e5, e6, e7, e8, .emp, .emp, .emp, .emp] ∧ noOwn Γ' 4 = true ∧ noOwn Γ' 5 = true, [4], ⟨.emp, .emp, .emp, .emp, .emp, rfl, rfl, rfl⟩, fun i d Γ' hd iv => ?_, fun Γ' iv => ?_⟩
  · obtain ⟨e4, e5, e6, e7, e8, rfl, n4, n5⟩ := iv
    obtain ⟨hi, rfl⟩ := rgD_get hd
    have hi : i < 6 := hi
    rw [Int.zero_add]
    obtain ⟨o, ho, hom, _, _⟩ := odds_at hO hi
    refine g_p (p_name (by simp) n4 ?_)
    refine s_for ?_
    walk_at "go"
    refine ⟨true, _, i, i, .lst o, rfl, rfl, ixN_of (by rw [List.length_map]; omega), hom, .inl ⟨true, o, rfl, fun _ Γ' => ∃ e5 e6 e7 e8, Γ' = [.jar j, .val (.int a), .val (.lst (goodD a)), .val (.lst (O.map .lst)), .val (.int (i : Nat)), e5, e6, e7, e8, .emp, .emp, .emp, .emp] ∧ noOwn Γ' 5 = true, [5], ⟨e5, e6, e7, e8, rfl, n5⟩, fun m d Γ' hd iv => ?_, fun Γ' iv => ?_⟩⟩
    · obtain ⟨e5, e6, e7, e8, rfl, n5⟩ := iv
      refine g_p (p_name (by simp) n5 ?_)
      exact body_f k hi hO ho (List.mem_of_getElem? hd) fun e6 e7 e8 h => ⟨_, _, _, _, rfl, h⟩
    · obtain ⟨e5, e6, e7, e8, rfl, n5⟩ := iv
      exact ⟨_, _, _, _, _, rfl, rfl, n5⟩
  · obtain ⟨e4, e5, e6, e7, e8, rfl, n4, n5⟩ := iv
    obtain ⟨o, ho, hom, _, hlen⟩ := odds_at hO (show 2 < 6 by decide)
    have g2 : ∀ d ∈ o, dOk 20 d := by
      obtain ⟨o0, o1, o2, o3, o4, o5, rfl, _, _, _, h2, _⟩ := hO
      cases ho
      exact h2
    unfold sp_law_heard_term sp_law_lo_is_term sp_law_yq_same sp_Function___init sp_law_changes_right
    refine s_seq (s_asg (x_l (l_map (f := id) (h := fun x => .tup [.str "told", .bl (termB a x)]) rfl ?_)))
    walk_at "go"
    refine ⟨true, _, 2, 2, .lst o, rfl, rfl, ixN_of (k := 2) (by rw [List.length_map]; omega), hom, .inl ⟨true, o, rfl, o, (List.map_id _).symm, small (by omega), fun x hx => ?_, ?_⟩⟩
    · refine p_name (by simp) rfl ?_
      walk_at "go"
      exact ⟨x, a, rfl, dok_mono (g2 x hx) (by decide), rfl⟩
    walk_at "go"
    refine l_map (f := id) (h := fun x => .tup [.str "told", .bl (termB a x)]) rfl ?_
    walk_at "go"
    refine ⟨true, _, 2, 2, .lst o, rfl, rfl, ixN_of (k := 2) (by rw [List.length_map]; omega), hom, .inl ⟨true, o, rfl, o, (List.map_id _).symm, small (by omega), fun x hx => ?_, ?_⟩⟩
    · refine p_name (by simp) rfl ?_
      walk_at "go"
      refine ⟨x, a, rfl, dok_mono (g2 x hx) (by decide), ?_⟩
      walk_at "go"
      rfl
    have gs : dOk 3 (.lst (o.map fun x => .tup [.str "told", .bl (termB a x)])) := dok_lst (fun d hd => by
      obtain ⟨x, hx, rfl⟩ := List.mem_map.mp hd
      exact dok_tup (all_cons (dok_str (by decide +kernel)) (all_cons (dok_bl _) all_nil)) (show 2 ≤ 100000 by decide) (by decide)) (by rw [List.length_map]; omega) (by decide)
    walk_at "go"
    refine ⟨_, rfl, gs.1, gs.2.1, Nat.le_trans gs.2.2 (by decide), ?_⟩
    refine nbt (s_next ?_)
    refine s_seq (s_asgG (L := [11, 12]) (x_toldP fun E' => ?_))
    show EX K _ E' noX _ [.jar j, .val (.int a), .val (.lst (goodD a)), .val (.lst (O.map .lst)), e4, e5, e6, e7, e8, .val (.lst (o.map fun x => .tup [.str "told", .bl (termB a x)])), .emp, .emp, .emp] _
    walk_at "go"
    refine ⟨true, _, 0, 0, .str "f", rfl, rfl, rfl, rfl, ?_⟩
    walk_at "go"
    refine ⟨true, _, 1, 1, .int a, rfl, rfl, rfl, rfl, ?_⟩
    walk_at "go"
    refine ⟨true, _, 2, 2, goodR, rfl, rfl, rfl, rfl, ?_⟩
    walk_at "go"
    refine ⟨true, _, 3, 3, .str "changing", rfl, rfl, rfl, rfl, ?_⟩
    walk_at "go"
    refine ⟨true, _, 4, 4, .lst goodW, rfl, rfl, rfl, rfl, ?_⟩
    walk_at "go"
    refine ⟨true, _, 5, 5, .int 7, rfl, rfl, rfl, rfl, ?_⟩
    walk_at "go"
    have hr : refu (.str "f") (.int a) goodR (.str "changing") (.lst goodW) (.int 7) = none := by
      have := refu_good (l := .str "changing") h0 (by omega : a ≤ 2)
      rw [if_pos (by decide +kernel)] at this
      exact this
    refine ⟨rfl, rfl, .str "f", .int a, goodR, .str "changing", .lst goodW, .int 7, rfl, ⟨dok_mono f_ok (by decide), dok_int _, dok_mono goodR_ok (by decide), .inl (dok_mono ch_ok (by decide)), .inl (dok_mono goodW_ok (by decide)), dok_int _⟩, fun z x h => (by rw [hr] at h; cases h), fun _ q hq hk => ?_⟩
    have : q = 3 := by
      rcases hk with hk | hk
      · have : lb 3 = lb q := by injection hk
        exact (lb_inj (by decide) hq this).symm
      · cases hk
    subst this
    refine g_p (p_tup rfl (ps_cons (p_name (by simp) rfl (ps_cons (p_name (by simp) rfl (ps_nil ?_))))))
    walk_at "go"
    refine ⟨okd_str (by decide +kernel), okd_str (by decide +kernel), ?_⟩
    rw [eqD_same (okd_str (by decide +kernel))]
    walk_at "go"
    exact ⟨a, O, rfl, h0, by omega, hO, p⟩
theorem w_law {K : Fg} (k : KF K) (E : XK) : OkD K (tabs K) E (F_law K) 3 2 (t_law K E) := by
  rintro ds P X ⟨ns, rfl, h1, h2, p⟩
  refine ⟨rfl, ?_⟩
  unfold t_law sp_law_pool sp_law_function_right
  show SW K _ E X _ [.val (.lst (ns.map .int)), .emp, .emp] _ _ _ _
  refine s_jar rfl ?_ fun j => ?_
  · walk_at "go"
    exact ⟨ns, rfl, h1, h2, fun x y z h1 h2 => ⟨x, y, z, rfl, h1, h2⟩⟩
  refine s_ret (x_eq (EX.eb (x_l (l_none rfl ?_))))
  walk_at "go"
  refine ⟨_, rfl, by decide, by decide, small (by decide), fun d hd => ?_, ?_⟩
  · obtain ⟨i, hi⟩ := List.getElem?_of_mem hd
    obtain ⟨_, rfl⟩ := rgD_get hi
    refine p_name (by simp) rfl ?_
    walk_at "go"
    exact ⟨rfl, true, rfl, rfl⟩
  walk_at "go"
  refine ⟨okd_nilL, okd_nilL, ?_⟩
  rw [eqD_same okd_nilL]
  exact ⟨_, rfl, p⟩
end Lp.Q

set_option Elab.async false
set_option linter.all false
set_option maxRecDepth 100000
set_option maxHeartbeats 4000000
/-! each def's text has its reading, printed by gen2.py. Own work. -/
namespace Lp.Q
open PySem PySem.Spec PyProof.Rows L2 LamX Lp
abbrev Hd := HdF fa fn tf exB
section
variable {P : Program} {w : World} {K : Fg} {mg : Str → Option Value} {base : Heap}
theorem ox0_BadLabel (T : Hd w K mg base) : OxOk K (He.ga K "BadLabel") "label" (He.ma K (He.ga K "BadLabel") "__init__") := excB_ok (ba2 T.more).1
theorem ox0_BadPart (T : Hd w K mg base) : OxOk K (He.ga K "BadPart") "part" (He.ma K (He.ga K "BadPart") "__init__") := excB_ok (ba2 (ba2 T.more).2).1
theorem ox0_BadTerm (T : Hd w K mg base) : OxOk K (He.ga K "BadTerm") "term" (He.ma K (He.ga K "BadTerm") "__init__") := excB_ok (ba2 (ba2 (ba2 T.more).2).2).1
theorem st_StoreError (T : Hd w K mg base) : StBase K (He.ga K "StoreError") := stB_ok (ba2 (ba2 (ba2 (ba2 T.more).2).2).2).1
theorem tf_nd (T : Hd w K mg base) : (tf.map fun q => (He.cT K q).2).Nodup := of_decide_eq_true (ba2 (ba2 (ba2 (ba2 (ba2 T.more).2).2).2).2).1
theorem isF (T : Hd w K mg base) : IsF K (Cs K) := isFB_ok (ba2 (ba2 (ba2 (ba2 (ba2 (ba2 T.more).2).2).2).2).2).1
theorem mo_Label (T : Hd w K mg base) : PySem.W.mroIn K (He.ga K "Label") (.type "object") = some true := (isF T).hm _ (by simp [Cs])
theorem ne_Label (T : Hd w K mg base) : PySem.W.findIn K (.ref (He.ga K "Label")) "__ne__" = some (some (.builtin "object.__ne__")) := of_decide_eq_true (ba2 (ba2 (ba2 (ba2 (ba2 (ba2 (ba2 (ba2 (ba2 (ba2 T.more).2).2).2).2).2).2).2).2).2).1
theorem mt_Label (T : Hd w K mg base) : PySem.W.mroIn K (He.ga K "Label") (.type "tuple") = some false := of_decide_eq_true (ba2 (ba2 (ba2 (ba2 (ba2 (ba2 (ba2 (ba2 (ba2 (ba2 (ba2 T.more).2).2).2).2).2).2).2).2).2).2).1
theorem ml_Label (T : Hd w K mg base) : PySem.W.mroIn K (He.ga K "Label") (.type "list") = some false := of_decide_eq_true (ba2 (ba2 (ba2 (ba2 (ba2 (ba2 (ba2 (ba2 (ba2 (ba2 (ba2 (ba2 T.more).2).2).2).2).2).2).2).2).2).2).2).1
theorem mo_Function (T : Hd w K mg base) : PySem.W.mroIn K (He.ga K "Function") (.type "object") = some true := (isF T).hm _ (by simp [Cs])
theorem ne_Function (T : Hd w K mg base) : PySem.W.findIn K (.ref (He.ga K "Function")) "__ne__" = some (some (.builtin "object.__ne__")) := of_decide_eq_true (ba2 (ba2 (ba2 (ba2 (ba2 (ba2 (ba2 (ba2 (ba2 (ba2 (ba2 (ba2 (ba2 T.more).2).2).2).2).2).2).2).2).2).2).2).2).1
theorem mt_Function (T : Hd w K mg base) : PySem.W.mroIn K (He.ga K "Function") (.type "tuple") = some false := of_decide_eq_true (ba2 (ba2 (ba2 (ba2 (ba2 (ba2 (ba2 (ba2 (ba2 (ba2 (ba2 (ba2 (ba2 (ba2 T.more).2).2).2).2).2).2).2).2).2).2).2).2).2).1
theorem ml_Function (T : Hd w K mg base) : PySem.W.mroIn K (He.ga K "Function") (.type "list") = some false := of_decide_eq_true (ba2 (ba2 (ba2 (ba2 (ba2 (ba2 (ba2 (ba2 (ba2 (ba2 (ba2 (ba2 (ba2 (ba2 (ba2 T.more).2).2).2).2).2).2).2).2).2).2).2).2).2).2).1
theorem kf (T : Hd w K mg base) : KF K := ⟨trivial, T.exm 76, T.exm 77, T.exm 78, T.exm 79, T.exm 80, T.exm 81, tupSB_ok (ba2 (ba2 (ba2 (ba2 (ba2 (ba2 (ba2 T.more).2).2).2).2).2).2).1, tupSB_ok (ba2 (ba2 (ba2 (ba2 (ba2 (ba2 (ba2 (ba2 T.more).2).2).2).2).2).2).2).1, tupSB_ok (ba2 (ba2 (ba2 (ba2 (ba2 (ba2 (ba2 (ba2 (ba2 T.more).2).2).2).2).2).2).2).2).1⟩
theorem fld_name (T : Hd w K mg base) : ∀ C ∈ fC_name K, Cls K C ∧ NoAttr K C "name" := fun C hC => by
  have hC : C = He.ga K "Label" ∨ C = He.ga K "Function" := by simpa [fC_name] using hC
  rcases hC with rfl | rfl
  · exact ⟨T.cls 82, T.noat 83⟩
  · exact ⟨T.cls 51, T.noat 84⟩
theorem fld_arguments (T : Hd w K mg base) : ∀ C ∈ fC_arguments K, Cls K C ∧ NoAttr K C "arguments" := fun C hC => by
  have hC : C = He.ga K "Function" := by simpa [fC_arguments] using hC
  subst hC
  exact ⟨T.cls 51, T.noat 85⟩
theorem fld_result (T : Hd w K mg base) : ∀ C ∈ fC_result K, Cls K C ∧ NoAttr K C "result" := fun C hC => by
  have hC : C = He.ga K "Function" := by simpa [fC_result] using hC
  subst hC
  exact ⟨T.cls 51, T.noat 86⟩
theorem fld_label (T : Hd w K mg base) : ∀ C ∈ fC_label K, Cls K C ∧ NoAttr K C "label" := fun C hC => by
  have hC : C = He.ga K "Function" := by simpa [fC_label] using hC
  subst hC
  exact ⟨T.cls 51, T.noat 87⟩
theorem fld_writes (T : Hd w K mg base) : ∀ C ∈ fC_writes K, Cls K C ∧ NoAttr K C "writes" := fun C hC => by
  have hC : C = He.ga K "Function" := by simpa [fC_writes] using hC
  subst hC
  exact ⟨T.cls 51, T.noat 88⟩
theorem fld_cost (T : Hd w K mg base) : ∀ C ∈ fC_cost K, Cls K C ∧ NoAttr K C "cost" := fun C hC => by
  have hC : C = He.ga K "Function" := by simpa [fC_cost] using hC
  subst hC
  exact ⟨T.cls 51, T.noat 89⟩
theorem fld_height (T : Hd w K mg base) : ∀ C ∈ fC_height K, Cls K C ∧ NoAttr K C "height" := fun C hC => by
  have hC : C = He.ga K "Label" := by simpa [fC_height] using hC
  subst hC
  exact ⟨T.cls 82, T.noat 90⟩
theorem lamc_law_heard {X : Cx} (T : Hd X.w X.K X.mg X.base) {nm : Str} {k : Nat} {M : List Str} {params : Arguments} {body : Expr} {scope : Scope} {t : XK → TE} {p lpos pos : Pos} (hq : ((nm, none) : He.Defn) ∈ tf) (hqual : X.env.qual = nm ++ ".<locals>.")
    (hcode : X.env.code = .ref (He.cT X.K (nm, none)).1) (hr : Room (k + 2) X.A) (L : LamT X.N M X.env.scope scope)
    (hbody : ∀ (A : Around) (outer : List Env) (s : Shared) (H : Hp) (E : XK) (f c' : Addr), Room k (A.deeper (lamEnv X scope s.heap.objs.size f c')) → PE (lamCy X M A outer s H E scope f c') body (t E))
    (hg : Gl X "_law_heard" := by rfl) (hdef : defaultsOf params X.env = ([], []) := by rfl)
    (hbind : ∀ (q : Str) (cl : List (Str × Addr)) (pm cv ctv : Value), bindArgs (PySem.W.kla_fn "<lambda>" q params body scope cl pm cv ctv) ⟨[], []⟩ = pure [] := by intros; rfl) :
    PE X (.Call (.Name "_law_heard" p) [.Lambda params body scope lpos] [] pos) (tLamM (tabs X.K) (TTh X.K "told" (hL X.K)) M t) := by
  obtain ⟨fd, F⟩ := T.def_ 10 (d := d_law_heard)
  have S : FnScope ["asked_now", "error_one"] ["asked_now"] (defScope st_law_heard) := ⟨rfl, rfl, rfl, by decide +kernel, rfl, by decide +kernel, by decide +kernel⟩
  refine pe_lamD3 F (F.bindsN fun _ _ _ _ _ _ us hl => match us, hl with | [_], _ => rfl) hg (T.glo 75) S rfl (.inl rfl) (fun cdv => ?_) (T.tb _ hq) hcode (by rw [hqual]; exact tabs_in hq) (by rw [hqual]; exact tabs_hu (tf_nd T) hq) hr L hdef hbind hbody
  refine heard_gives (L := hL X.K) (i := 1) (by decide) (by decide) fun s H => ?_
  refine .cons ⟨rfl, by decide, .inl (T.glo 15)⟩ ⟨S.nd, rfl, rfl⟩ (fun a oe cls d pn hz hf => pss_one (ps_ret (pe_tup (pa_cons pe_str (pa_cons (pe_xf (ox0_BadLabel T).xf (ox0_BadLabel T).no hz hf (pv 1)) pa_nil))))) ?_
  refine .cons ⟨rfl, by decide, .inl (T.glo 43)⟩ ⟨S.nd, rfl, rfl⟩ (fun a oe cls d pn hz hf => pss_one (ps_ret (pe_tup (pa_cons pe_str (pa_cons (pe_xf (ox0_BadPart T).xf (ox0_BadPart T).no hz hf (pv 1)) pa_nil))))) ?_
  refine .cons ⟨rfl, by decide, .inl (T.glo 44)⟩ ⟨S.nd, rfl, rfl⟩ (fun a oe cls d pn hz hf => pss_one (ps_ret (pe_tup (pa_cons pe_str (pa_cons (pe_xf (ox0_BadTerm T).xf (ox0_BadTerm T).no hz hf (pv 1)) pa_nil))))) ?_
  refine .cons ⟨rfl, by decide, .inl (T.glo 14)⟩ trivial (fun a oe cls d pn hz hf => pss_one (ps_ret (pe_tup (pa_cons pe_str (pa_cons pe_non pa_nil))))) ?_
  exact .nil
theorem sc_law_pool : FnScope ["script", "digits", "stirred", "i", "cell"] ["script"] (defScope st_law_pool) := ⟨rfl, rfl, rfl, by decide +kernel, rfl, by decide +kernel, by decide +kernel⟩
theorem ok_law_pool (T : Hd w K mg base) : Cd P w K mg base 1 "_law_pool" (sp_law_pool K) [] := by
  obtain ⟨fd, F⟩ := T.def_ 0 (d := d_law_pool)
  have S := sc_law_pool
  refine ⟨_, fd, ["script"], [], F.ok S (fun vs H Q E h => (w_law_pool K E).len h) (fun cdv A outer s H vs Q E hr h => ⟨t_law_pool K E, ?_, (w_law_pool K E).body h⟩), T.glo 4, F.kp, F.bindsN fun _ _ _ _ _ _ us hl => match us, hl with | [_], _ => rfl, .nil⟩
  exact (pss_cons (ps_asg (pe_tup (pa_cons pe_int (pa_cons pe_int pa_nil))) (pg_tup rfl (pgs_cons (pg_n 1 S.nd) (pgs_cons (pg_n 2 S.nd) pgs_nil))))
      (pss_cons (ps_for (passes_of rfl) rfl (pi_range1 (by rfl) (T.free 0) (pa_cons (pe_callB cl_uLen (by rfl) (T.free 1) bb_len (pa_cons (pv 0) pa_nil)) pa_nil)) (pg_n 3 S.nd) (pss_cons (ps_s 4 S.nd (pe_callB (cl_uMax2 rfl) (by rfl) (T.free 2) bb_max (pa_cons (pe_callTy cl_uInt (by rfl) (T.free 3) bt_int (pa_cons (pe_ix ix_seq (pv 0) (pv 3) (fun _ _ => rfl)) pa_nil)) (pa_cons (pe_callTy cl_uInt (by rfl) (T.free 3) bt_int (pa_cons (pe_op op_uSub (pe_un un_neg pe_int) (pe_ix ix_seq (pv 0) (pv 3) (fun _ _ => rfl))) pa_nil)) pa_nil))))
      (pss_cons (ps_s 2 S.nd (pe_op op_uMod (pe_callTy cl_uInt (by rfl) (T.free 3) bt_int (pa_cons (pe_op op_uAdd (pe_op op_uAdd (pe_op op_uMul (pv 2) pe_int) (pe_op op_uMod (pv 4) pe_int)) pe_int) pa_nil)) pe_int))
      (pss_one (ps_s 1 S.nd (pe_ifExp (PW.pt (pw_and (pt_cmpR op_uGe (pv 4) (pe_op op_uPow pe_int pe_int) (nomark _)) (pw_and1 (pt_cmpR (op_vLt (units0 hr)) (pv 1) (pe_op op_uPow pe_int pe_int) (nomark _))))) (pe_callTy cl_uInt (by rfl) (T.free 3) bt_int (pa_cons (pe_op op_uAdd (pe_op op_uMul (pv 1) (pe_op op_uPow pe_int pe_int)) (pe_op op_uMod (pv 4) (pe_op op_uPow pe_int pe_int))) pa_nil)) (pv 1)))))))
      (pss_one (ps_ret (pe_lst (pa_cons (pv 1) (pa_cons (pv 2) (pa_cons pe_int pa_nil))))))))
theorem sc_law_take : FnScope ["jar", "many", "found"] ["jar", "many"] (defScope st_law_take) := ⟨rfl, rfl, rfl, by decide +kernel, rfl, by decide +kernel, by decide +kernel⟩
theorem ok_law_take (T : Hd w K mg base) : Cd P w K mg base 1 "_law_take" (sp_law_take K) [] := by
  obtain ⟨fd, F⟩ := T.def_ 1 (d := d_law_take)
  have S := sc_law_take
  refine ⟨_, fd, ["jar", "many"], [], F.ok S (fun vs H Q E h => (w_law_take K).len h) (fun cdv A outer s H vs Q E hr h => ⟨t_law_take K eN, ?_, (w_law_take K).body h⟩), T.glo 5, F.kp, F.bindsN fun _ _ _ _ _ _ us hl => match us, hl with | [_, _], _ => rfl, .nil⟩
  exact (pss_cons (ps_if (pt_cmpR op_uGt (pe_ix ix_seq (pv 0) pe_int (fun _ _ => rfl)) pe_int (nomark _)) (pss_cons (ps_s 2 S.nd (pe_op op_uMod (pe_callTy cl_uInt (by rfl) (T.free 3) bt_int (pa_cons (pe_ix ix_seq (pv 0) pe_int (fun _ _ => rfl)) pa_nil)) (pv 1)))
      (pss_cons (ps_asg (pe_op op_uFdiv (pe_ix ix_seq (pv 0) pe_int (fun _ _ => rfl)) (pv 1)) (pg_sub (pv 0) pe_int set_list))
      (pss_one (ps_ret (pv 2))))) pss_nil)
      (pss_cons (ps_asg (pe_op op_uAdd (pe_ix ix_seq (pv 0) pe_int (fun _ _ => rfl)) pe_int) (pg_sub (pv 0) pe_int set_list))
      (pss_cons (ps_asg (pe_op op_uMod (pe_callTy cl_uInt (by rfl) (T.free 3) bt_int (pa_cons (pe_op op_uAdd (pe_op op_uAdd (pe_op op_uMul (pe_ix ix_seq (pv 0) pe_int (fun _ _ => rfl)) pe_int) (pe_op op_uMul pe_int (pe_ix ix_seq (pv 0) pe_int (fun _ _ => rfl)))) pe_int) pa_nil)) pe_int) (pg_sub (pv 0) pe_int set_list))
      (pss_one (ps_ret (pe_op op_uMod (pe_callTy cl_uInt (by rfl) (T.free 3) bt_int (pa_cons (pe_op op_uFdiv (pe_op op_uMod (pe_callTy cl_uInt (by rfl) (T.free 3) bt_int (pa_cons (pe_op op_uMul (pe_ix ix_seq (pv 0) pe_int (fun _ _ => rfl)) (pe_ix ix_seq (pv 0) pe_int (fun _ _ => rfl))) pa_nil)) pe_int) pe_int) pa_nil)) (pv 1)))))))
theorem sc_law_one : FnScope ["jar", "things"] ["jar", "things"] (defScope st_law_one) := ⟨rfl, rfl, rfl, by decide +kernel, rfl, by decide +kernel, by decide +kernel⟩
theorem ok_law_one (T : Hd w K mg base) : Cd P w K mg base 2 "_law_one" (sp_law_one K) [] := by
  obtain ⟨fd, F⟩ := T.def_ 2 (d := d_law_one)
  have S := sc_law_one
  refine ⟨_, fd, ["jar", "things"], [], F.ok S (fun vs H Q E h => (w_law_one K).len h) (fun cdv A outer s H vs Q E hr h => ⟨t_law_one K eN, ?_, (w_law_one K).body h⟩), T.glo 6, F.kp, F.bindsN fun _ _ _ _ _ _ us hl => match us, hl with | [_, _], _ => rfl, .nil⟩
  exact (pss_one (ps_ret (pe_ix ix_seq (pv 1) (pe_cd (ok_law_take T) hr (by omega) passE0 rfl (pa_cons (pv 0) (pa_cons (pe_callB cl_uLen (by rfl) (T.free 1) bb_len (pa_cons (pv 1) pa_nil)) pa_nil))) (fun _ _ => rfl))))
theorem sc_law_deep : FnScope ["jar", "deep", "made", "go", "some"] ["jar", "deep"] (defScope st_law_deep) := ⟨rfl, rfl, rfl, by decide +kernel, rfl, by decide +kernel, by decide +kernel⟩
theorem ok_law_deep (T : Hd w K mg base) : Cd P w K mg base 3 "_law_deep" (sp_law_deep K) [] := by
  obtain ⟨fd, F⟩ := T.def_ 3 (d := d_law_deep)
  have S := sc_law_deep
  refine ⟨_, fd, ["jar", "deep"], [], F.ok S (fun vs H Q E h => (w_law_deep (kf T)).len h) (fun cdv A outer s H vs Q E hr h => ⟨t_law_deep K eN, ?_, (w_law_deep (kf T)).body h⟩), T.glo 7, F.kp, F.bindsN fun _ _ _ _ _ _ us hl => match us, hl with | [_, _], _ => rfl, .nil⟩
  exact (pss_cons (ps_s 2 S.nd (pe_cd (ok_law_one T) hr (by omega) passE0 rfl (pa_cons (pv 0) (pa_cons (pe_lst (pa_cons pe_int (pa_cons pe_int pa_nil))) pa_nil))))
      (pss_cons (ps_for (passes_of rfl) rfl (pi_range1 (by rfl) (T.free 0) (pa_cons (pe_op op_uSub (pv 1) pe_int) pa_nil)) (pg_n 3 S.nd) (pss_cons (ps_s 4 S.nd (pe_lst (pa_cons (pe_tup (pa_cons pe_str (pa_cons (pv 2) (pa_cons pe_int pa_nil)))) (pa_cons (pe_tup (pa_cons pe_str (pa_cons pe_int (pa_cons (pv 2) pa_nil)))) (pa_cons (pe_tup (pa_cons pe_str (pa_cons (pv 2) (pa_cons pe_int (pa_cons pe_int pa_nil))))) (pa_cons (pe_tup (pa_cons pe_str (pa_cons pe_str (pa_cons (pe_tup (pa_cons (pv 2) pa_nil)) pa_nil)))) (pa_cons (pe_tup (pa_cons pe_str (pa_cons pe_int (pa_cons pe_int (pa_cons (pv 2) pa_nil))))) pa_nil)))))))
      (pss_one (ps_s 2 S.nd (pe_cd (ok_law_one T) hr (by omega) passE0 rfl (pa_cons (pv 0) (pa_cons (pv 4) pa_nil)))))))
      (pss_one (ps_ret (pv 2)))))
theorem sc_law_wide : FnScope ["many", "made", "i"] ["many"] (defScope st_law_wide) := ⟨rfl, rfl, rfl, by decide +kernel, rfl, by decide +kernel, by decide +kernel⟩
theorem ok_law_wide (T : Hd w K mg base) : Cd P w K mg base 1 "_law_wide" (sp_law_wide K) [] := by
  obtain ⟨fd, F⟩ := T.def_ 4 (d := d_law_wide)
  have S := sc_law_wide
  refine ⟨_, fd, ["many"], [], F.ok S (fun vs H Q E h => (w_law_wide (kf T) E).len h) (fun cdv A outer s H vs Q E hr h => ⟨t_law_wide K E, ?_, (w_law_wide (kf T) E).body h⟩), T.glo 8, F.kp, F.bindsN fun _ _ _ _ _ _ us hl => match us, hl with | [_], _ => rfl, .nil⟩
  exact (pss_cons (ps_s 1 S.nd (pe_op op_uMul (pe_lst (pa_cons pe_int pa_nil)) (pe_op op_uFdiv (pe_op op_uAdd (pv 0) pe_int) pe_int)))
      (pss_cons (ps_while (passes_of rfl) (pt_cmpR op_uGt (pe_callB cl_uLen (by rfl) (T.free 1) bb_len (pa_cons (pv 1) pa_nil)) pe_int (nomark _)) (pss_one (ps_s 1 S.nd (pe_op op_uAdd (pe_lc (own := [("i", 2)]) rfl S.nd (pi_range3 (by rfl) (T.free 0) (pa_cons pe_int (pa_cons (pe_op op_uSub (pe_callB cl_uLen (by rfl) (T.free 1) bb_len (pa_cons (pv 1) pa_nil)) pe_int) (pa_cons pe_int pa_nil)))) (blkOk_by (own := [("i", 2)]) (by kernel_rfl)) (fun _ _ _ _ _ => (pg_n 2 S.nd)) (fun _ _ _ _ _ => pts_nil) (fun _ _ _ _ _ => (pe_tup (pa_cons pe_str (pa_cons (pe_ix ix_seq (pv 1) (pv 2) (fun _ _ => rfl)) (pa_cons (pe_ix ix_seq (pv 1) (pe_op op_uAdd (pv 2) pe_int) (fun _ _ => rfl)) pa_nil)))))) (pe_slice sl_u (pv 1) (po_some (pe_op op_uSub (pe_callB cl_uLen (by rfl) (T.free 1) bb_len (pa_cons (pv 1) pa_nil)) (pe_op op_uMod (pe_callB cl_uLen (by rfl) (T.free 1) bb_len (pa_cons (pv 1) pa_nil)) pe_int))) po_none)))))
      (pss_one (ps_ret (pe_ix ix_seq (pv 1) pe_int (fun _ _ => rfl))))))
theorem sc_law_terms : FnScope ["jar", "arguments", "some"] ["jar", "arguments"] (defScope st_law_terms) := ⟨rfl, rfl, rfl, by decide +kernel, rfl, by decide +kernel, by decide +kernel⟩
theorem ok_law_terms (T : Hd w K mg base) : Cd P w K mg base 4 "_law_terms" (sp_law_terms K) [] := by
  obtain ⟨fd, F⟩ := T.def_ 5 (d := d_law_terms)
  have S := sc_law_terms
  refine ⟨_, fd, ["jar", "arguments"], [], F.ok S (fun vs H Q E h => (w_law_terms (kf T)).len h) (fun cdv A outer s H vs Q E hr h => ⟨t_law_terms K eN, ?_, (w_law_terms (kf T)).body h⟩), T.glo 9, F.kp, F.bindsN fun _ _ _ _ _ _ us hl => match us, hl with | [_, _], _ => rfl, .nil⟩
  exact (pss_cons (ps_s 2 S.nd (pe_lst (pa_cons pe_int (pa_cons pe_int (pa_cons pe_int (pa_cons (pe_un un_neg pe_int) (pa_cons pe_bl (pa_cons pe_non (pa_cons pe_str (pa_cons (pe_tup pa_nil) (pa_cons (pe_tup (pa_cons pe_str pa_nil)) (pa_cons (pe_tup (pa_cons pe_str (pa_cons (pv 1) pa_nil))) (pa_cons (pe_tup (pa_cons pe_str (pa_cons (pe_op op_uSub (pv 1) pe_int) pa_nil))) pa_nil)))))))))))))
      (pss_cons (ps_expr (pe_bm PySem.F.plainAttrs_list PySem.F.slot_list_extend PySem.F.type_list_extend mt_extend (pv 2) (pa_cons (pe_lst (pa_cons (pe_tup (pa_cons pe_str (pa_cons (pe_un un_neg pe_int) pa_nil))) (pa_cons (pe_tup (pa_cons pe_str (pa_cons pe_bl pa_nil))) pa_nil))) pa_nil)))
      (pss_cons (ps_expr (pe_bm PySem.F.plainAttrs_list PySem.F.slot_list_extend PySem.F.type_list_extend mt_extend (pv 2) (pa_cons (pe_lst (pa_cons (pe_tup (pa_cons pe_str (pa_cons pe_str pa_nil))) (pa_cons (pe_tup (pa_cons pe_str (pa_cons pe_str pa_nil))) (pa_cons (pe_tup (pa_cons pe_str pa_nil)) (pa_cons (pe_tup (pa_cons pe_str (pa_cons pe_str pa_nil))) (pa_cons (pe_tup (pa_cons pe_str (pa_cons pe_non pa_nil))) (pa_cons (pe_tup (pa_cons pe_str pa_nil)) pa_nil))))))) pa_nil)))
      (pss_cons (ps_expr (pe_bm PySem.F.plainAttrs_list PySem.F.slot_list_extend PySem.F.type_list_extend mt_extend (pv 2) (pa_cons (pe_lst (pa_cons (pe_tup (pa_cons pe_str (pa_cons pe_int pa_nil))) (pa_cons pe_str pa_nil))) pa_nil)))
      (pss_cons (ps_expr (pe_bm PySem.F.plainAttrs_list PySem.F.slot_list_extend PySem.F.type_list_extend mt_extend (pv 2) (pa_cons (pe_lst (pa_cons (pe_tup (pa_cons pe_str (pa_cons pe_int pa_nil))) (pa_cons (pe_tup (pa_cons pe_str (pa_cons pe_int (pa_cons pe_int (pa_cons pe_int pa_nil))))) (pa_cons (pe_tup (pa_cons pe_str (pa_cons pe_int (pa_cons pe_int pa_nil)))) (pa_cons (pe_tup (pa_cons pe_str (pa_cons (pe_tup pa_nil) (pa_cons pe_int pa_nil)))) (pa_cons (pe_tup (pa_cons pe_str (pa_cons pe_int (pa_cons (pe_lst (pa_cons pe_int pa_nil)) pa_nil)))) (pa_cons (pe_lst (pa_cons pe_str (pa_cons pe_int (pa_cons pe_int pa_nil)))) pa_nil))))))) pa_nil)))
      (pss_cons (ps_expr (pe_bm PySem.F.plainAttrs_list PySem.F.slot_list_append PySem.F.type_list_append mt_append (pv 2) (pa_cons (pe_tup (pa_cons pe_str (pa_cons pe_int (pa_cons pe_int pa_nil)))) pa_nil)))
      (pss_cons (ps_expr (pe_bm PySem.F.plainAttrs_list PySem.F.slot_list_extend PySem.F.type_list_extend mt_extend (pv 2) (pa_cons (pe_lst (pa_cons (pe_tup (pa_cons pe_str (pa_cons pe_int (pa_cons pe_int pa_nil)))) (pa_cons (pe_tup (pa_cons pe_str (pa_cons pe_int (pa_cons pe_int (pa_cons pe_int pa_nil))))) (pa_cons (pe_tup (pa_cons pe_str (pa_cons pe_int (pa_cons pe_int (pa_cons pe_int (pa_cons pe_int pa_nil)))))) (pa_cons (pe_tup (pa_cons pe_str (pa_cons pe_int (pa_cons pe_bl (pa_cons pe_int pa_nil))))) (pa_cons (pe_tup (pa_cons pe_str (pa_cons pe_int pa_nil))) (pa_cons (pe_tup (pa_cons pe_int pa_nil)) pa_nil))))))) pa_nil)))
      (pss_cons (ps_expr (pe_bm PySem.F.plainAttrs_list PySem.F.slot_list_extend PySem.F.type_list_extend mt_extend (pv 2) (pa_cons (pe_lst (pa_cons (pe_tup (pa_cons pe_non (pa_cons pe_int pa_nil))) (pa_cons (pe_tup (pa_cons pe_str (pa_cons pe_int (pa_cons pe_int pa_nil)))) pa_nil))) pa_nil)))
      (pss_cons (ps_expr (pe_bm PySem.F.plainAttrs_list PySem.F.slot_list_extend PySem.F.type_list_extend mt_extend (pv 2) (pa_cons (pe_lst (pa_cons (pe_tup (pa_cons pe_str (pa_cons pe_str (pa_cons (pe_tup pa_nil) pa_nil)))) (pa_cons (pe_tup (pa_cons pe_str (pa_cons pe_str (pa_cons (pe_tup (pa_cons pe_int (pa_cons pe_int pa_nil))) pa_nil)))) (pa_cons (pe_tup (pa_cons pe_str (pa_cons pe_str (pa_cons (pe_tup (pa_cons pe_int (pa_cons pe_int (pa_cons pe_int pa_nil)))) pa_nil)))) (pa_cons (pe_tup (pa_cons pe_str (pa_cons pe_str (pa_cons (pe_lst (pa_cons pe_int pa_nil)) pa_nil)))) pa_nil))))) pa_nil)))
      (pss_cons (ps_expr (pe_bm PySem.F.plainAttrs_list PySem.F.slot_list_append PySem.F.type_list_append mt_append (pv 2) (pa_cons (pe_tup (pa_cons pe_str (pa_cons pe_str (pa_cons pe_int pa_nil)))) pa_nil)))
      (pss_cons (ps_expr (pe_bm PySem.F.plainAttrs_list PySem.F.slot_list_extend PySem.F.type_list_extend mt_extend (pv 2) (pa_cons (pe_lst (pa_cons (pe_tup (pa_cons pe_str (pa_cons pe_str (pa_cons (pe_tup pa_nil) pa_nil)))) (pa_cons (pe_tup (pa_cons pe_str (pa_cons pe_int (pa_cons (pe_tup pa_nil) pa_nil)))) (pa_cons (pe_tup (pa_cons pe_str (pa_cons pe_str pa_nil))) (pa_cons (pe_tup (pa_cons pe_str (pa_cons pe_str (pa_cons (pe_tup (pa_cons pe_int pa_nil)) pa_nil)))) pa_nil))))) pa_nil)))
      (pss_cons (ps_expr (pe_bm PySem.F.plainAttrs_list PySem.F.slot_list_append PySem.F.type_list_append mt_append (pv 2) (pa_cons (pe_tup (pa_cons pe_str (pa_cons pe_str (pa_cons (pe_tup (pa_cons (pe_tup (pa_cons pe_str (pa_cons pe_int pa_nil))) pa_nil)) pa_nil)))) pa_nil)))
      (pss_cons (ps_expr (pe_bm PySem.F.plainAttrs_list PySem.F.slot_list_extend PySem.F.type_list_extend mt_extend (pv 2) (pa_cons (pe_lst (pa_cons (pe_cd (ok_law_deep T) hr (by omega) passE0 rfl (pa_cons (pv 0) (pa_cons pe_int pa_nil))) (pa_cons (pe_cd (ok_law_deep T) hr (by omega) passE0 rfl (pa_cons (pv 0) (pa_cons pe_int pa_nil))) (pa_cons (pe_cd (ok_law_wide T) hr (by omega) passE0 rfl (pa_cons pe_int pa_nil)) (pa_cons (pe_cd (ok_law_wide T) hr (by omega) passE0 rfl (pa_cons pe_int pa_nil)) (pa_cons (pe_tup (pa_cons pe_str (pa_cons pe_str (pa_cons (pe_tup (pa_cons (pe_cd (ok_law_wide T) hr (by omega) passE0 rfl (pa_cons pe_int pa_nil)) pa_nil)) pa_nil)))) pa_nil)))))) pa_nil)))
      (pss_one (ps_ret (pe_op op_uAdd (pv 2) (pe_lst (pa_cons (pe_tup (pa_cons pe_str (pa_cons pe_str (pa_cons (pe_tup (pa_cons (pe_cd (ok_law_wide T) hr (by omega) passE0 rfl (pa_cons pe_int pa_nil)) (pa_cons pe_int pa_nil))) pa_nil)))) (pa_cons (pe_tup (pa_cons pe_str (pa_cons pe_int (pa_cons (pe_cd (ok_law_deep T) hr (by omega) passE0 rfl (pa_cons (pv 0) (pa_cons pe_int pa_nil))) pa_nil)))) (pa_cons (pe_tup (pa_cons pe_str (pa_cons (pe_cd (ok_law_deep T) hr (by omega) passE0 rfl (pa_cons (pv 0) (pa_cons pe_int pa_nil))) (pa_cons pe_int pa_nil)))) pa_nil))))))))))))))))))))
theorem sc_is_label_name : FnScope ["value"] ["value"] (defScope st_is_label_name) := ⟨rfl, rfl, rfl, by decide +kernel, rfl, by decide +kernel, by decide +kernel⟩
theorem ok_is_label_name (T : Hd w K mg base) : Cd P w K mg base 1 "is_label_name" (sp_is_label_name K) [] := by
  obtain ⟨fd, F⟩ := T.def_ 6 (d := d_is_label_name)
  have S := sc_is_label_name
  refine ⟨_, fd, ["value"], [], F.ok S (fun vs H Q E h => (w_is_label_name (kf T) E).len h) (fun cdv A outer s H vs Q E hr h => ⟨t_is_label_name K E, ?_, (w_is_label_name (kf T) E).body h⟩), T.glo 13, F.kp, F.bindsN fun _ _ _ _ _ _ us hl => match us, hl with | [_], _ => rfl, .nil⟩
  exact (pss_one (ps_ret (pe_and (pe_callB (call_isiU (isF T)) (by rfl) (T.free 10) bb_isinstance (pa_cons (pv 0) (pa_cons (pe_bltn (v := .ty "str") rfl (T.free 11) bt_str rfl) pa_nil))) (pe_one (pe_cmpR (op_vIn (units65 hr)) (pv 0) (C8.pe_gc rfl ⟨_, T.glo 12, rfl⟩) (by rfl))))))
theorem sc_BadLabel___init : FnScope ["self", "label"] ["self", "label"] (defScope st_BadLabel___init) := ⟨rfl, rfl, rfl, by decide +kernel, rfl, by decide +kernel, by decide +kernel⟩
theorem ok_BadLabel___init (T : Hd w K mg base) : ∃ (fI : Addr) (fd : FuncData), fI = He.ma K (He.ga K "BadLabel") "__init__" ∧ FnOk P w K mg base (L2.CX P w) 1 fI fd ["self", "label"] (sp_BadLabel___init K) ∧ Binds K fd ["self", "label"] [] := by
  obtain ⟨fd, F⟩ := T.def_ 7 (d := d_BadLabel___init)
  have S := sc_BadLabel___init
  refine ⟨_, fd, rfl, F.ok S (fun vs H Q E h => spX_len h) (fun cdv A outer s H vs Q E hr h => ⟨t_BadLabel___init K E, ?_, spX_body (ox0_BadLabel T) h⟩), F.bindsN fun _ _ _ _ _ _ us hl => match us, hl with | [_, _], _ => rfl⟩
  exact (pss_cons (ps_expr (pe_stinit rfl (T.glo 14) (st_StoreError T) (pa_cons (pv 0) (pa_cons pe_str pa_nil))))
      (pss_one (ps_ost (pv 0) (pv 1))))
theorem ox_BadLabel (T : Hd w K mg base) : Cx1 P w K mg base 1 "BadLabel" (He.ga K "BadLabel") (sp_BadLabel___init K) := by
  obtain ⟨fI, fd, e, h1, h2⟩ := ok_BadLabel___init (P := P) T
  subst e
  have o := ox0_BadLabel T
  exact ⟨_, fd, ["self", "label"], o.ex, o.ini, o.ty, h1, h2, (T.glo 15)⟩
theorem sc_Label___init : FnScope ["self", "name"] ["self", "name"] (defScope st_Label___init) := ⟨rfl, rfl, rfl, by decide +kernel, rfl, by decide +kernel, by decide +kernel⟩
theorem ok_Label___init (T : Hd w K mg base) : Ck P w K mg base 3 "Label" (He.ga K "Label") (sp_Label___init K) [] := by
  obtain ⟨fd, F⟩ := T.def_ 8 (d := d_Label___init)
  have S := sc_Label___init
  refine ⟨_, fd, ["self", "name"], [], T.mkr 16, F.ok S (fun vs H Q E h => (w_Label___init (kf T) E).len h) (fun cdv A outer s H vs Q E hr h => ⟨t_Label___init K E, ?_, (w_Label___init (kf T) E).body h⟩), T.glo 17, F.bindsN fun _ _ _ _ _ _ us hl => match us, hl with | [_, _], _ => rfl, .nil⟩
  exact (pss_cons (ps_if (pt_not (pt_val (pe_cd (ok_is_label_name T) hr (by omega) passE0 rfl (pa_cons (pv 1) pa_nil)))) (pss_one (ps_raise rfl (takes_of rfl rfl rfl rfl) (pmk_x (ox_BadLabel T) hr (by omega) rfl (pa_cons (pv 1) pa_nil)))) pss_nil)
      (pss_cons (ps_oSet (fld_name T _ (by simp [fC_name])) (pv 0) (pv 1) rfl)
      (pss_one (ps_oSet (fld_height T _ (by simp [fC_height])) (pv 0) (pe_op op_uSub (pe_op op_uSub (pe_callB cl_uLen (by rfl) (T.free 1) bb_len (pa_cons (C8.pe_gc rfl ⟨_, T.glo 12, rfl⟩) pa_nil)) pe_int) (pe_bm PySem.F.plainAttrs_tuple PySem.F.slot_tuple_index PySem.F.type_tuple_index mt_tup_index (C8.pe_gc rfl ⟨_, T.glo 12, rfl⟩) (pa_cons (pv 1) pa_nil))) rfl))))
theorem sc_law_odds : FnScope ["jar", "many", "terms_now", "term", "writes", "names", "labels_now"] ["jar", "many"] (defScope st_law_odds) := ⟨rfl, rfl, rfl, by decide +kernel, rfl, by decide +kernel, by decide +kernel⟩
theorem ok_law_odds (T : Hd w K mg base) : Cd P w K mg base 5 "_law_odds" (sp_law_odds K) [] := by
  obtain ⟨fd, F⟩ := T.def_ 9 (d := d_law_odds)
  have S := sc_law_odds
  refine ⟨_, fd, ["jar", "many"], [], F.ok S (fun vs H Q E h => (w_law_odds (kf T)).len h) (fun cdv A outer s H vs Q E hr h => ⟨t_law_odds K eN, ?_, (w_law_odds (kf T)).body h⟩), T.glo 18, F.kp, F.bindsN fun _ _ _ _ _ _ us hl => match us, hl with | [_, _], _ => rfl, .nil⟩
  exact (pss_cons (ps_s 2 S.nd (pe_cd (ok_law_terms T) hr (by omega) passE0 rfl (pa_cons (pv 0) (pa_cons (pv 1) pa_nil))))
      (pss_cons (ps_s 3 S.nd (pe_cd (ok_law_one T) hr (by omega) passE0 rfl (pa_cons (pv 0) (pa_cons (pv 2) pa_nil))))
      (pss_cons (ps_s 4 S.nd (pe_lst (pa_cons pe_non (pa_cons pe_int (pa_cons pe_str (pa_cons pe_dnewK (pa_cons (pe_op op_uMul (pe_lst (pa_cons (pe_tup (pa_cons pe_str (pa_cons pe_int pa_nil))) pa_nil)) pe_int) (pa_cons (pe_lst (pa_cons (pe_tup (pa_cons pe_str pa_nil)) pa_nil)) (pa_cons (pe_lst (pa_cons (pe_tup (pa_cons pe_str (pa_cons pe_int (pa_cons pe_int pa_nil)))) pa_nil)) (pa_cons (pe_lst (pa_cons (pe_lst (pa_cons pe_str (pa_cons pe_int pa_nil))) pa_nil)) (pa_cons (pe_lst (pa_cons pe_str pa_nil)) (pa_cons (pe_lst (pa_cons (pe_tup (pa_cons pe_str (pa_cons pe_int pa_nil))) pa_nil)) pa_nil))))))))))))
      (pss_cons (ps_expr (pe_bm PySem.F.plainAttrs_list PySem.F.slot_list_extend PySem.F.type_list_extend mt_extend (pv 4) (pa_cons (pe_lst (pa_cons (pe_lst (pa_cons (pe_tup (pa_cons pe_non (pa_cons pe_int pa_nil))) pa_nil)) (pa_cons (pe_tup pa_nil) (pa_cons (pe_lst pa_nil) pa_nil)))) pa_nil)))
      (pss_cons (ps_expr (pe_bm PySem.F.plainAttrs_list PySem.F.slot_list_extend PySem.F.type_list_extend mt_extend (pv 4) (pa_cons (pe_lst (pa_cons (pe_lst (pa_cons (pe_tup (pa_cons pe_str (pa_cons pe_int pa_nil))) (pa_cons (pe_tup (pa_cons pe_str (pa_cons pe_int pa_nil))) (pa_cons (pe_tup (pa_cons pe_str (pa_cons pe_int pa_nil))) (pa_cons (pe_tup (pa_cons pe_str (pa_cons pe_int pa_nil))) pa_nil))))) (pa_cons (pe_lst (pa_cons (pe_tup (pa_cons pe_str (pa_cons pe_int pa_nil))) (pa_cons (pe_tup (pa_cons pe_str (pa_cons pe_int pa_nil))) (pa_cons (pe_tup (pa_cons pe_str (pa_cons (pv 3) pa_nil))) pa_nil)))) (pa_cons (pe_tup (pa_cons (pe_tup (pa_cons pe_str (pa_cons (pv 3) pa_nil))) pa_nil)) pa_nil)))) pa_nil)))
      (pss_cons (ps_expr (pe_bm PySem.F.plainAttrs_list PySem.F.slot_list_extend PySem.F.type_list_extend mt_extend (pv 4) (pa_cons (pe_lst (pa_cons (pe_lst (pa_cons (pe_tup (pa_cons pe_str (pa_cons (pv 3) pa_nil))) (pa_cons (pe_tup (pa_cons pe_str (pa_cons pe_int pa_nil))) pa_nil))) (pa_cons (pe_lst (pa_cons (pe_tup (pa_cons pe_str (pa_cons pe_int pa_nil))) (pa_cons (pe_tup (pa_cons pe_str (pa_cons (pv 3) pa_nil))) pa_nil))) (pa_cons (pe_lst (pa_cons (pe_tup (pa_cons pe_str (pa_cons pe_int pa_nil))) (pa_cons (pe_tup (pa_cons pe_str (pa_cons (pe_tup (pa_cons pe_str pa_nil)) pa_nil))) (pa_cons (pe_tup (pa_cons pe_str (pa_cons (pe_tup (pa_cons pe_str (pa_cons pe_int pa_nil))) pa_nil))) pa_nil)))) pa_nil)))) pa_nil)))
      (pss_cons (ps_s 5 S.nd (pe_lst (pa_cons pe_str (pa_cons pe_str (pa_cons pe_str (pa_cons pe_str (pa_cons pe_non (pa_cons pe_int (pa_cons pe_str (pa_cons (pe_tup (pa_cons pe_str pa_nil)) (pa_cons pe_bl pa_nil)))))))))))
      (pss_cons (ps_s 6 S.nd (pe_lst (pa_cons pe_str (pa_cons pe_str (pa_cons pe_non (pa_cons pe_int (pa_cons (pe_tup (pa_cons pe_str pa_nil)) (pa_cons pe_str (pa_cons (pe_ck (ok_Label___init T) hr (by omega) passE0 rfl (pa_cons pe_str pa_nil)) (pa_cons pe_str (pa_cons (pe_lst (pa_cons pe_str pa_nil)) pa_nil)))))))))))
      (pss_one (ps_ret (pe_lst (pa_cons (pv 5) (pa_cons (pe_lst (pa_cons (pe_un un_neg pe_int) (pa_cons pe_int (pa_cons pe_bl (pa_cons pe_non (pa_cons pe_str (pa_cons (pe_tup (pa_cons pe_int pa_nil)) pa_nil))))))) (pa_cons (pv 2) (pa_cons (pv 6) (pa_cons (pv 4) (pa_cons (pe_lst (pa_cons (pe_un un_neg pe_int) (pa_cons pe_int (pa_cons pe_bl (pa_cons pe_non (pa_cons pe_str (pa_cons pe_int (pa_cons pe_int pa_nil)))))))) pa_nil)))))))))))))))))
theorem sc_inner_terms : FnScope ["term"] ["term"] (defScope st_inner_terms) := ⟨rfl, rfl, rfl, by decide +kernel, rfl, by decide +kernel, by decide +kernel⟩
theorem ok_inner_terms (T : Hd w K mg base) : Cd P w K mg base 1 "inner_terms" (sp_inner_terms K) [] := by
  obtain ⟨fd, F⟩ := T.def_ 11 (d := d_inner_terms)
  have S := sc_inner_terms
  refine ⟨_, fd, ["term"], [], F.ok S (fun vs H Q E h => (w_inner_terms (kf T) E).len h) (fun cdv A outer s H vs Q E hr h => ⟨t_inner_terms K E, ?_, (w_inner_terms (kf T) E).body h⟩), T.glo 21, F.kp, F.bindsN fun _ _ _ _ _ _ us hl => match us, hl with | [_], _ => rfl, .nil⟩
  exact (pss_cons (ps_if (pt_not (pt_val (pe_callB (call_isiU (isF T)) (by rfl) (T.free 10) bb_isinstance (pa_cons (pv 0) (pa_cons (pe_bltn (v := .ty "tuple") rfl (T.free 19) bt_tuple rfl) pa_nil))))) (pss_one (ps_ret (pe_tup pa_nil))) pss_nil)
      (pss_cons (ps_if (pt_cmpR (op_uEq hr.units) (pe_ix ix_seq (pv 0) pe_int (fun _ _ => rfl)) pe_str (nomark _)) (pss_one (ps_ret (pe_ix ix_seq (pv 0) pe_int (fun _ _ => rfl)))) pss_nil)
      (pss_one (ps_ret (pe_ifExp (PW.pt (pw_or (pt_cmpR (op_vIn (units65 hr)) (pe_ix ix_seq (pv 0) pe_int (fun _ _ => rfl)) (C8.pe_gc rfl ⟨_, T.glo 20, rfl⟩) (by rfl)) (pw_or1 (pt_cmpR (op_uEq hr.units) (pe_ix ix_seq (pv 0) pe_int (fun _ _ => rfl)) pe_str (nomark _))))) (pe_slice sl_u (pv 0) (po_some pe_int) po_none) (pe_tup pa_nil))))))
theorem sc_has_kind : FnScope ["value", "kind", "many"] ["value", "kind", "many"] (defScope st_has_kind) := ⟨rfl, rfl, rfl, by decide +kernel, rfl, by decide +kernel, by decide +kernel⟩
theorem ok_has_kind (T : Hd w K mg base) : Cd P w K mg base 1 "has_kind" (sp_has_kind K) [] := by
  obtain ⟨fd, F⟩ := T.def_ 12 (d := d_has_kind)
  have S := sc_has_kind
  refine ⟨_, fd, ["value", "kind", "many"], [], F.ok S (fun vs H Q E h => (w_has_kind (kf T) E).len h) (fun cdv A outer s H vs Q E hr h => ⟨t_has_kind K E, ?_, (w_has_kind (kf T) E).body h⟩), T.glo 22, F.kp, F.bindsN fun _ _ _ _ _ _ us hl => match us, hl with | [_, _, _], _ => rfl, .nil⟩
  exact (pss_one (ps_ret (pe_and (pe_callB (call_isiU (isF T)) (by rfl) (T.free 10) bb_isinstance (pa_cons (pv 0) (pa_cons (pe_bltn (v := .ty "tuple") rfl (T.free 19) bt_tuple rfl) pa_nil))) (pe_and (pe_cmpR (op_uEq hr.units) (pe_callB cl_uLen (by rfl) (T.free 1) bb_len (pa_cons (pv 0) pa_nil)) (pv 2) (nomark _)) (pe_and (pe_callB (call_isiU (isF T)) (by rfl) (T.free 10) bb_isinstance (pa_cons (pe_ix ix_seq (pv 0) pe_int (fun _ _ => rfl)) (pa_cons (pe_bltn (v := .ty "str") rfl (T.free 11) bt_str rfl) pa_nil))) (pe_one (pe_cmpR (op_uEq hr.units) (pe_ix ix_seq (pv 0) pe_int (fun _ _ => rfl)) (pv 1) (nomark _))))))))
theorem sc_is_integer : FnScope ["value"] ["value"] (defScope st_is_integer) := ⟨rfl, rfl, rfl, by decide +kernel, rfl, by decide +kernel, by decide +kernel⟩
theorem ok_is_integer (T : Hd w K mg base) : Cd P w K mg base 1 "is_integer" (sp_is_integer K) [] := by
  obtain ⟨fd, F⟩ := T.def_ 13 (d := d_is_integer)
  have S := sc_is_integer
  refine ⟨_, fd, ["value"], [], F.ok S (fun vs H Q E h => (w_is_integer (kf T) E).len h) (fun cdv A outer s H vs Q E hr h => ⟨t_is_integer K E, ?_, (w_is_integer (kf T) E).body h⟩), T.glo 24, F.kp, F.bindsN fun _ _ _ _ _ _ us hl => match us, hl with | [_], _ => rfl, .nil⟩
  exact (pss_one (ps_ret (pe_and (pe_callB (call_isiU (isF T)) (by rfl) (T.free 10) bb_isinstance (pa_cons (pv 0) (pa_cons (pe_bltn (v := .ty "int") rfl (T.free 3) bt_int rfl) pa_nil))) (pe_one (pe_not (pe_callB (call_isiU (isF T)) (by rfl) (T.free 10) bb_isinstance (pa_cons (pv 0) (pa_cons (pe_bltn (v := .ty "bool") rfl (T.free 23) bt_bool rfl) pa_nil))))))))
theorem sc_is_between : FnScope ["value", "least", "most"] ["value", "least", "most"] (defScope st_is_between) := ⟨rfl, rfl, rfl, by decide +kernel, rfl, by decide +kernel, by decide +kernel⟩
theorem ok_is_between (T : Hd w K mg base) : Cd P w K mg base 2 "is_between" (sp_is_between K) [] := by
  obtain ⟨fd, F⟩ := T.def_ 14 (d := d_is_between)
  have S := sc_is_between
  refine ⟨_, fd, ["value", "least", "most"], [], F.ok S (fun vs H Q E h => (w_is_between (kf T) E).len h) (fun cdv A outer s H vs Q E hr h => ⟨t_is_between K E, ?_, (w_is_between (kf T) E).body h⟩), T.glo 25, F.kp, F.bindsN fun _ _ _ _ _ _ us hl => match us, hl with | [_, _, _], _ => rfl, .nil⟩
  exact (pss_one (ps_ret (pe_and (pe_cd (ok_is_integer T) hr (by omega) passE0 rfl (pa_cons (pv 0) pa_nil)) (pe_one (pe_chain op_uLe op_uLe (pv 1) (pv 0) (pv 2))))))
theorem sc_is_value : FnScope ["value"] ["value"] (defScope st_is_value) := ⟨rfl, rfl, rfl, by decide +kernel, rfl, by decide +kernel, by decide +kernel⟩
theorem ok_is_value (T : Hd w K mg base) : Cd P w K mg base 3 "is_value" (sp_is_value K) [] := by
  obtain ⟨fd, F⟩ := T.def_ 15 (d := d_is_value)
  have S := sc_is_value
  refine ⟨_, fd, ["value"], [], F.ok S (fun vs H Q E h => (w_is_value (kf T) E).len h) (fun cdv A outer s H vs Q E hr h => ⟨t_is_value K E, ?_, (w_is_value (kf T) E).body h⟩), T.glo 27, F.kp, F.bindsN fun _ _ _ _ _ _ us hl => match us, hl with | [_], _ => rfl, .nil⟩
  exact (pss_one (ps_ret (pe_cd (ok_is_between T) hr (by omega) passE0 rfl (pa_cons (pv 0) (pa_cons pe_int (pa_cons (C8.pe_gc rfl (T.int 26)) pa_nil))))))
theorem sc_is_name : FnScope ["value", "sign"] ["value"] (defScope st_is_name) := ⟨rfl, rfl, rfl, by decide +kernel, rfl, by decide +kernel, by decide +kernel⟩
theorem ok_is_name (T : Hd w K mg base) : Cd P w K mg base 1 "is_name" (sp_is_name K) [] := by
  obtain ⟨fd, F⟩ := T.def_ 16 (d := d_is_name)
  have S := sc_is_name
  refine ⟨_, fd, ["value"], [], F.ok S (fun vs H Q E h => (w_is_name (kf T) E).len h) (fun cdv A outer s H vs Q E hr h => ⟨t_is_name K E, ?_, (w_is_name (kf T) E).body h⟩), T.glo 31, F.kp, F.bindsN fun _ _ _ _ _ _ us hl => match us, hl with | [_], _ => rfl, .nil⟩
  exact (pss_one (ps_ret (pe_and (pe_callB (call_isiU (isF T)) (by rfl) (T.free 10) bb_isinstance (pa_cons (pv 0) (pa_cons (pe_bltn (v := .ty "str") rfl (T.free 11) bt_str rfl) pa_nil))) (pe_and (pe_chain op_uLe op_uLe pe_int (pe_callB cl_uLen (by rfl) (T.free 1) bb_len (pa_cons (pv 0) pa_nil)) (C8.pe_gc rfl (T.int 28))) (pe_one (pe_callB (cr_all rfl) (by rfl) (T.free 29) bb_all (pa_cons (pe_lc (own := [("sign", 1)]) rfl S.nd (pi_u (pv 0)) (blkOk_by (own := [("sign", 1)]) (by kernel_rfl)) (fun _ _ _ _ _ => (pg_n 1 S.nd)) (fun _ _ _ _ _ => pts_nil) (fun _ _ _ _ _ => (pe_cmpR (op_vIn (units65 hr)) (pv 1) (C8.pe_gc rfl (T.str 30)) (by rfl)))) pa_nil)))))))
theorem sc_has_form : FnScope ["value", "arguments", "kind"] ["value", "arguments"] (defScope st_has_form) := ⟨rfl, rfl, rfl, by decide +kernel, rfl, by decide +kernel, by decide +kernel⟩
theorem ok_has_form (T : Hd w K mg base) : Cd P w K mg base 4 "has_form" (sp_has_form K) [] := by
  obtain ⟨fd, F⟩ := T.def_ 17 (d := d_has_form)
  have S := sc_has_form
  refine ⟨_, fd, ["value", "arguments"], [], F.ok S (fun vs H Q E h => (w_has_form (kf T) E).len h) (fun cdv A outer s H vs Q E hr h => ⟨t_has_form K E, ?_, (w_has_form (kf T) E).body h⟩), T.glo 34, F.kp, F.bindsN fun _ _ _ _ _ _ us hl => match us, hl with | [_, _], _ => rfl, .nil⟩
  exact (pss_cons (ps_if (PW.pt (pw_or (pt_val (pe_cd (ok_is_value T) hr (by omega) passE0 rfl (pa_cons (pv 0) pa_nil))) (pw_or1 (pt_val (pe_cd (ok_has_kind T) hr (by omega) passE0 rfl (pa_cons (pv 0) (pa_cons pe_str (pa_cons pe_int pa_nil)))))))) (pss_one (ps_ret pe_bl)) pss_nil)
      (pss_cons (ps_if (pt_val (pe_cd (ok_has_kind T) hr (by omega) passE0 rfl (pa_cons (pv 0) (pa_cons pe_str (pa_cons pe_int pa_nil))))) (pss_one (ps_ret (pe_cd (ok_is_between T) hr (by omega) passE0 rfl (pa_cons (pe_ix ix_seq (pv 0) pe_int (fun _ _ => rfl)) (pa_cons pe_int (pa_cons (pe_op op_uSub (pv 1) pe_int) pa_nil)))))) pss_nil)
      (pss_cons (ps_if (pt_val (pe_cd (ok_has_kind T) hr (by omega) passE0 rfl (pa_cons (pv 0) (pa_cons pe_str (pa_cons pe_int pa_nil))))) (pss_one (ps_ret (pe_cd (ok_is_name T) hr (by omega) passE0 rfl (pa_cons (pe_ix ix_seq (pv 0) pe_int (fun _ _ => rfl)) pa_nil)))) pss_nil)
      (pss_cons (ps_if (pt_val (pe_cd (ok_has_kind T) hr (by omega) passE0 rfl (pa_cons (pv 0) (pa_cons pe_str (pa_cons pe_int pa_nil))))) (pss_one (ps_ret (pe_and (pe_cd (ok_is_name T) hr (by omega) passE0 rfl (pa_cons (pe_ix ix_seq (pv 0) pe_int (fun _ _ => rfl)) pa_nil)) (pe_and (pe_callB (call_isiU (isF T)) (by rfl) (T.free 10) bb_isinstance (pa_cons (pe_ix ix_seq (pv 0) pe_int (fun _ _ => rfl)) (pa_cons (pe_bltn (v := .ty "tuple") rfl (T.free 19) bt_tuple rfl) pa_nil))) (pe_one (pe_cmpR op_uLe (pe_callB cl_uLen (by rfl) (T.free 1) bb_len (pa_cons (pe_ix ix_seq (pv 0) pe_int (fun _ _ => rfl)) pa_nil)) (C8.pe_gc rfl (T.int 32)) (nomark _))))))) pss_nil)
      (pss_one (ps_ret (pe_or (pe_callB (cr_any rfl) (by rfl) (T.free 33) bb_any (pa_cons (pe_lc (own := [("kind", 2)]) rfl S.nd (pi_u (C8.pe_gc rfl ⟨_, T.glo 20, rfl⟩)) (blkOk_by (own := [("kind", 2)]) (by kernel_rfl)) (fun _ _ _ _ _ => (pg_n 2 S.nd)) (fun _ _ _ _ _ => pts_nil) (fun _ _ _ _ _ => (pe_cd (ok_has_kind T) hr (by omega) passE0 rfl (pa_cons (pv 0) (pa_cons (pv 2) (pa_cons pe_int pa_nil)))))) pa_nil)) (pe_one (pe_cd (ok_has_kind T) hr (by omega) passE0 rfl (pa_cons (pv 0) (pa_cons pe_str (pa_cons pe_int pa_nil))))))))))))
theorem sc_is_term : FnScope ["value", "arguments", "layer", "parts", "turn", "part", "term"] ["value", "arguments"] (defScope st_is_term) := ⟨rfl, rfl, rfl, by decide +kernel, rfl, by decide +kernel, by decide +kernel⟩
theorem ok_is_term (T : Hd w K mg base) : Cd P w K mg base 5 "is_term" (sp_is_term K) [] := by
  obtain ⟨fd, F⟩ := T.def_ 18 (d := d_is_term)
  have S := sc_is_term
  refine ⟨_, fd, ["value", "arguments"], [], F.ok S (fun vs H Q E h => (w_is_term (kf T) E).len h) (fun cdv A outer s H vs Q E hr h => ⟨t_is_term K E, ?_, (w_is_term (kf T) E).body h⟩), T.glo 37, F.kp, F.bindsN fun _ _ _ _ _ _ us hl => match us, hl with | [_, _], _ => rfl, .nil⟩
  exact (pss_cons (ps_par (i := 2) (j := 3) rfl S.nd rfl rfl (by decide) rfl rfl (pa_cons (pe_lst (pa_cons (pv 0) pa_nil)) (pa_cons pe_int pa_nil)) (by rfl))
      (pss_cons (ps_for (passes_of rfl) rfl (pi_range1 (by rfl) (T.free 0) (pa_cons (C8.pe_gc rfl (T.int 35)) pa_nil)) (pg_n 4 S.nd) (pss_cons (ps_aug (i := 3) S.nd rfl (by first | exact Or.inl rfl | exact Or.inr rfl) (pe_callB cl_uLen (by rfl) (T.free 1) bb_len (pa_cons (pv 2) pa_nil)) ip_add)
      (pss_cons (ps_if (PW.pt (pw_or (pt_cmpR op_uGt (pv 3) (C8.pe_gc rfl (T.int 36)) (nomark _)) (pw_or1 (pt_not (pt_val (pe_callB (cr_all rfl) (by rfl) (T.free 29) bb_all (pa_cons (pe_lc (own := [("part", 5)]) rfl S.nd (pi_u (pv 2)) (blkOk_by (own := [("part", 5)]) (by kernel_rfl)) (fun _ _ _ _ _ => (pg_n 5 S.nd)) (fun _ _ _ _ _ => pts_nil) (fun _ _ _ _ _ => (pe_cd (ok_has_form T) hr (by omega) passE0 rfl (pa_cons (pv 5) (pa_cons (pv 1) pa_nil))))) pa_nil))))))) (pss_one (ps_ret pe_bl)) pss_nil)
      (pss_cons (ps_setLc2 (i := 2) (own := [("term", 6), ("part", 5)]) (vs1 := [5]) rfl S.nd rfl rfl (sw_true rfl rfl rfl (by decide +kernel)) (pi_u (pv 2)) (blkOk_by (own := [("term", 6), ("part", 5)]) (by kernel_rfl)) (by decide) (fun _ _ _ _ _ => (pg_n 6 S.nd)) (fun _ _ _ _ _ => pts_nil) (fun _ _ _ _ _ => (pi_u (pe_cd (ok_inner_terms T) hr (by omega) passE0 rfl (pa_cons (pv 6) pa_nil)))) (fun _ _ _ _ _ => (pg_n 5 S.nd)) (fun _ _ _ _ _ => pts_nil) (fun _ _ _ _ _ => (pv 5)))
      (pss_one (ps_if (pt_cmpR (op_uEq hr.units) (pv 2) (pe_lst pa_nil) (nomark _)) (pss_one (ps_ret pe_bl)) pss_nil))))))
      (pss_one (ps_ret pe_bl))))
theorem sc_law_heard_term : FnScope ["term", "many"] ["term", "many"] (defScope st_law_heard_term) := ⟨rfl, rfl, rfl, by decide +kernel, rfl, by decide +kernel, by decide +kernel⟩
theorem ok_law_heard_term (T : Hd w K mg base) : Cd P w K mg base 8 "_law_heard_term" (sp_law_heard_term K) [] := by
  obtain ⟨fd, F⟩ := T.def_ 19 (d := d_law_heard_term)
  have S := sc_law_heard_term
  have hB : Binds K fd ["term", "many"] [] := F.bindsN fun _ _ _ _ _ _ us hl => match us, hl with | [_, _], _ => rfl
  have kp := F.kp
  obtain ⟨oc, od, dV, kV, doc, pm, an, cdv, ct, osl, rfl, lk, hcd, _, _⟩ := F.ex
  obtain ⟨c0, rfl⟩ := He.codeIn_ref hcd
  have hc0 : c0 = (He.cT K ("_law_heard_term", none)).1 := (He.codeOf_eq lk rfl).symm
  refine ⟨_, _, ["term", "many"], [], fn_of lk hcd S (fun vs H Q E h => (w_law_heard_term (kf T) E).len h) (fun A outer s H vs Q E hr h => ⟨t_law_heard_term K E, ?_, (w_law_heard_term (kf T) E).body h⟩), T.glo 38, kp, hB, .nil⟩
  exact (pss_one (ps_ret (lamc_law_heard T (nm := "_law_heard_term") (M := []) (by decide) rfl (congrArg Value.ref hc0) hr (lamT_by (by kernel_rfl)) (fun A outer s H E f c' hr => (pe_cd (ok_is_term T) hr (by omega) passE0 rfl (pa_cons (pv 0) (pa_cons (pv 1) pa_nil)))))))
theorem sc_law_yq_is_whole : FnScope ["thing"] ["thing"] (defScope st_law_yq_is_whole) := ⟨rfl, rfl, rfl, by decide +kernel, rfl, by decide +kernel, by decide +kernel⟩
theorem ok_law_yq_is_whole (T : Hd w K mg base) : Cd P w K mg base 1 "_law_yq_is_whole" (sp_law_yq_is_whole K) [] := by
  obtain ⟨fd, F⟩ := T.def_ 20 (d := d_law_yq_is_whole)
  have S := sc_law_yq_is_whole
  refine ⟨_, fd, ["thing"], [], F.ok S (fun vs H Q E h => (w_law_yq_is_whole K E).len h) (fun cdv A outer s H vs Q E hr h => ⟨t_law_yq_is_whole K E, ?_, (w_law_yq_is_whole K E).body h⟩), T.glo 39, F.kp, F.bindsN fun _ _ _ _ _ _ us hl => match us, hl with | [_], _ => rfl, .nil⟩
  exact (pss_one (ps_ret (pe_and (pe_callB (call_isiU (isF T)) (by rfl) (T.free 10) bb_isinstance (pa_cons (pv 0) (pa_cons (pe_bltn (v := .ty "int") rfl (T.free 3) bt_int rfl) pa_nil))) (pe_one (pe_not (pe_callB (call_isiU (isF T)) (by rfl) (T.free 10) bb_isinstance (pa_cons (pv 0) (pa_cons (pe_bltn (v := .ty "bool") rfl (T.free 23) bt_bool rfl) pa_nil))))))))
theorem sc_law_yq_same : FnScope ["heard_one", "owed", "i"] ["heard_one", "owed"] (defScope st_law_yq_same) := ⟨rfl, rfl, rfl, by decide +kernel, rfl, by decide +kernel, by decide +kernel⟩
theorem ok_law_yq_same (T : Hd w K mg base) : ∀ n, Cd P w K mg base (2 + n) "_law_yq_same" (sp_law_yq_same n K) []
  | 0 => by
    obtain ⟨fd, F⟩ := T.def_ 21 (d := d_law_yq_same)
    refine ⟨_, fd, ["heard_one", "owed"], [], F.ok (k := 1) sc_law_yq_same (fun vs H Q E h => (no_law_yq_same h).elim) (fun cdv A outer s H vs Q E hr h => (no_law_yq_same h).elim), T.glo 41, F.kp, F.bindsN fun _ _ _ _ _ _ us hl => match us, hl with | [_, _], _ => rfl, .nil⟩
  | n + 1 => by
    have IH := ok_law_yq_same T n
    obtain ⟨fd, F⟩ := T.def_ 21 (d := d_law_yq_same)
    have S := sc_law_yq_same
    refine ⟨_, fd, ["heard_one", "owed"], [], F.ok (k := 2 + n) S (fun vs H Q E h => (w_law_yq_same n K E).len h) (fun cdv A outer s H vs Q E hr h => ⟨t_law_yq_same n K E, ?_, (w_law_yq_same n K E).body h⟩), T.glo 41, F.kp, F.bindsN fun _ _ _ _ _ _ us hl => match us, hl with | [_, _], _ => rfl, .nil⟩
    exact (pss_cons (ps_if (pt_cmpR op_uIsN (pv 1) pe_non (nomark _)) (pss_one (ps_ret (pe_cmpR op_uIsN (pv 0) pe_non (nomark _)))) pss_nil)
      (pss_cons (ps_if (pt_val (pe_callB (call_isiU (isF T)) (by rfl) (T.free 10) bb_isinstance (pa_cons (pv 1) (pa_cons (pe_bltn (v := .ty "bool") rfl (T.free 23) bt_bool rfl) pa_nil)))) (pss_one (ps_ret (pe_ifExp (pt_val (pv 1)) (pe_cmpR op_isBl (pv 0) pe_bl (nomark _)) (pe_cmpR op_isBl (pv 0) pe_bl (nomark _))))) pss_nil)
      (pss_cons (ps_if (pt_val (pe_callB (call_isiU (isF T)) (by rfl) (T.free 10) bb_isinstance (pa_cons (pv 1) (pa_cons (pe_bltn (v := .ty "int") rfl (T.free 3) bt_int rfl) pa_nil)))) (pss_one (ps_ret (pe_and (pe_cd (ok_law_yq_is_whole T) hr (by omega) passE0 rfl (pa_cons (pv 0) pa_nil)) (pe_one (pe_cmpR (op_uEq hr.units) (pv 0) (pv 1) (nomark _)))))) pss_nil)
      (pss_cons (ps_if (pt_val (pe_callB (call_isiU (isF T)) (by rfl) (T.free 10) bb_isinstance (pa_cons (pv 1) (pa_cons (pe_bltn (v := .ty "str") rfl (T.free 11) bt_str rfl) pa_nil)))) (pss_one (ps_ret (pe_and (pe_callB (call_isiU (isF T)) (by rfl) (T.free 10) bb_isinstance (pa_cons (pv 0) (pa_cons (pe_bltn (v := .ty "str") rfl (T.free 11) bt_str rfl) pa_nil))) (pe_one (pe_cmpR (op_uEq hr.units) (pv 0) (pv 1) (nomark _)))))) pss_nil)
      (pss_cons (ps_if (PW.pt (pw_and (pt_not (pt_val (pe_callB (call_isiU (isF T)) (by rfl) (T.free 10) bb_isinstance (pa_cons (pv 1) (pa_cons (pe_bltn (v := .ty "tuple") rfl (T.free 19) bt_tuple rfl) pa_nil))))) (pw_and1 (pt_not (pt_val (pe_callB (call_isiU (isF T)) (by rfl) (T.free 10) bb_isinstance (pa_cons (pv 1) (pa_cons (pe_bltn (v := .ty "list") rfl (T.free 40) bt_list rfl) pa_nil)))))))) (pss_one (ps_ret (pe_callTy cl_uBool (by rfl) (T.free 23) bt_bool (pa_cons (pe_cmpR (op_uEq hr.units) (pv 0) (pv 1) (nomark _)) pa_nil)))) pss_nil)
      (pss_cons (ps_if (pt_cmpR (op_uNe hr.units) (pe_callB (call_isiU (isF T)) (by rfl) (T.free 10) bb_isinstance (pa_cons (pv 1) (pa_cons (pe_bltn (v := .ty "tuple") rfl (T.free 19) bt_tuple rfl) pa_nil))) (pe_callB (call_isiU (isF T)) (by rfl) (T.free 10) bb_isinstance (pa_cons (pv 0) (pa_cons (pe_bltn (v := .ty "tuple") rfl (T.free 19) bt_tuple rfl) pa_nil))) (nomark _)) (pss_one (ps_ret pe_bl)) pss_nil)
      (pss_cons (ps_if (pt_cmpR (op_uNe hr.units) (pe_callB (call_isiU (isF T)) (by rfl) (T.free 10) bb_isinstance (pa_cons (pv 1) (pa_cons (pe_bltn (v := .ty "list") rfl (T.free 40) bt_list rfl) pa_nil))) (pe_callB (call_isiU (isF T)) (by rfl) (T.free 10) bb_isinstance (pa_cons (pv 0) (pa_cons (pe_bltn (v := .ty "list") rfl (T.free 40) bt_list rfl) pa_nil))) (nomark _)) (pss_one (ps_ret pe_bl)) pss_nil)
      (pss_cons (ps_if (pt_cmpR (op_uNe hr.units) (pe_callB cl_uLen (by rfl) (T.free 1) bb_len (pa_cons (pv 0) pa_nil)) (pe_callB cl_uLen (by rfl) (T.free 1) bb_len (pa_cons (pv 1) pa_nil)) (nomark _)) (pss_one (ps_ret pe_bl)) pss_nil)
      (pss_cons (ps_for (passes_of rfl) rfl (pi_range1 (by rfl) (T.free 0) (pa_cons (pe_callB cl_uLen (by rfl) (T.free 1) bb_len (pa_cons (pv 1) pa_nil)) pa_nil)) (pg_n 2 S.nd) (pss_one (ps_if (pt_not (pt_val (pe_cd IH hr (by omega) passE0 rfl (pa_cons (pe_ix ix_seq (pv 0) (pv 2) (fun _ _ => rfl)) (pa_cons (pe_ix ix_seq (pv 1) (pv 2) (fun _ _ => rfl)) pa_nil))))) (pss_one (ps_ret pe_bl)) pss_nil)))
      (pss_one (ps_ret pe_bl)))))))))))
theorem sc_made_label : FnScope ["value"] ["value"] (defScope st_made_label) := ⟨rfl, rfl, rfl, by decide +kernel, rfl, by decide +kernel, by decide +kernel⟩
theorem ok_made_label (T : Hd w K mg base) : Cd P w K mg base 5 "made_label" (sp_made_label K) [] := by
  obtain ⟨fd, F⟩ := T.def_ 22 (d := d_made_label)
  have S := sc_made_label
  refine ⟨_, fd, ["value"], [], F.ok S (fun vs H Q E h => (w_made_label (kf T) E).len h) (fun cdv A outer s H vs Q E hr h => ⟨t_made_label K E, ?_, (w_made_label (kf T) E).body h⟩), T.glo 42, F.kp, F.bindsN fun _ _ _ _ _ _ us hl => match us, hl with | [_], _ => rfl, .nil⟩
  exact (pss_one (ps_ret (pe_ifExp (pt_val (pe_callB (call_isiU (isF T)) (by rfl) (T.free 10) bb_isinstance (pa_cons (pv 0) (pa_cons (C8.pe_gc rfl ⟨_, (T.glo 17), rfl⟩) pa_nil)))) (pv 0) (pe_ck (ok_Label___init T) hr (by omega) (passes_call (takes_of rfl rfl rfl rfl) fun _ _ _ _ h => h) rfl (pa_cons (pv 0) pa_nil)))))
theorem sc_BadPart___init : FnScope ["self", "part"] ["self", "part"] (defScope st_BadPart___init) := ⟨rfl, rfl, rfl, by decide +kernel, rfl, by decide +kernel, by decide +kernel⟩
theorem ok_BadPart___init (T : Hd w K mg base) : ∃ (fI : Addr) (fd : FuncData), fI = He.ma K (He.ga K "BadPart") "__init__" ∧ FnOk P w K mg base (L2.CX P w) 1 fI fd ["self", "part"] (sp_BadPart___init K) ∧ Binds K fd ["self", "part"] [] := by
  obtain ⟨fd, F⟩ := T.def_ 23 (d := d_BadPart___init)
  have S := sc_BadPart___init
  refine ⟨_, fd, rfl, F.ok S (fun vs H Q E h => spX_len h) (fun cdv A outer s H vs Q E hr h => ⟨t_BadPart___init K E, ?_, spX_body (ox0_BadPart T) h⟩), F.bindsN fun _ _ _ _ _ _ us hl => match us, hl with | [_, _], _ => rfl⟩
  exact (pss_cons (ps_expr (pe_stinit rfl (T.glo 14) (st_StoreError T) (pa_cons (pv 0) (pa_cons pe_str pa_nil))))
      (pss_one (ps_ost (pv 0) (pv 1))))
theorem ox_BadPart (T : Hd w K mg base) : Cx1 P w K mg base 1 "BadPart" (He.ga K "BadPart") (sp_BadPart___init K) := by
  obtain ⟨fI, fd, e, h1, h2⟩ := ok_BadPart___init (P := P) T
  subst e
  have o := ox0_BadPart T
  exact ⟨_, fd, ["self", "part"], o.ex, o.ini, o.ty, h1, h2, (T.glo 43)⟩
theorem sc_BadTerm___init : FnScope ["self", "term"] ["self", "term"] (defScope st_BadTerm___init) := ⟨rfl, rfl, rfl, by decide +kernel, rfl, by decide +kernel, by decide +kernel⟩
theorem ok_BadTerm___init (T : Hd w K mg base) : ∃ (fI : Addr) (fd : FuncData), fI = He.ma K (He.ga K "BadTerm") "__init__" ∧ FnOk P w K mg base (L2.CX P w) 1 fI fd ["self", "term"] (sp_BadTerm___init K) ∧ Binds K fd ["self", "term"] [] := by
  obtain ⟨fd, F⟩ := T.def_ 24 (d := d_BadTerm___init)
  have S := sc_BadTerm___init
  refine ⟨_, fd, rfl, F.ok S (fun vs H Q E h => spX_len h) (fun cdv A outer s H vs Q E hr h => ⟨t_BadTerm___init K E, ?_, spX_body (ox0_BadTerm T) h⟩), F.bindsN fun _ _ _ _ _ _ us hl => match us, hl with | [_, _], _ => rfl⟩
  exact (pss_cons (ps_expr (pe_stinit rfl (T.glo 14) (st_StoreError T) (pa_cons (pv 0) (pa_cons pe_str pa_nil))))
      (pss_one (ps_ost (pv 0) (pv 1))))
theorem ox_BadTerm (T : Hd w K mg base) : Cx1 P w K mg base 1 "BadTerm" (He.ga K "BadTerm") (sp_BadTerm___init K) := by
  obtain ⟨fI, fd, e, h1, h2⟩ := ok_BadTerm___init (P := P) T
  subst e
  have o := ox0_BadTerm T
  exact ⟨_, fd, ["self", "term"], o.ex, o.ini, o.ty, h1, h2, (T.glo 44)⟩
theorem sc_are_writes : FnScope ["value", "row", "names", "at", "name"] ["value"] (defScope st_are_writes) := ⟨rfl, rfl, rfl, by decide +kernel, rfl, by decide +kernel, by decide +kernel⟩
theorem ok_are_writes (T : Hd w K mg base) : Cd P w K mg base 2 "are_writes" (sp_are_writes K) [] := by
  obtain ⟨fd, F⟩ := T.def_ 25 (d := d_are_writes)
  have S := sc_are_writes
  refine ⟨_, fd, ["value"], [], F.ok S (fun vs H Q E h => (w_are_writes (kf T) E).len h) (fun cdv A outer s H vs Q E hr h => ⟨t_are_writes K E, ?_, (w_are_writes (kf T) E).body h⟩), T.glo 47, F.kp, F.bindsN fun _ _ _ _ _ _ us hl => match us, hl with | [_], _ => rfl, .nil⟩
  exact (pss_cons (ps_if (PW.pt (pw_or (pt_not (pt_val (pe_callB call_isiT (by rfl) (T.free 10) bb_isinstance (pa_cons (pv 0) (pa_cons (pe_tup (pa_cons (pe_bltn (v := .ty "list") rfl (T.free 40) bt_list rfl) (pa_cons (pe_bltn (v := .ty "tuple") rfl (T.free 19) bt_tuple rfl) pa_nil))) pa_nil))))) (pw_or1 (pt_cmpR op_uGt (pe_callB cl_uLen (by rfl) (T.free 1) bb_len (pa_cons (pv 0) pa_nil)) (C8.pe_gc rfl (T.int 45)) (nomark _))))) (pss_one (ps_ret pe_bl)) pss_nil)
      (pss_cons (ps_if (pt_not (pt_val (pe_callB (cr_all rfl) (by rfl) (T.free 29) bb_all (pa_cons (pe_lc (own := [("row", 1)]) rfl S.nd (pi_u (pv 0)) (blkOk_by (own := [("row", 1)]) (by kernel_rfl)) (fun _ _ _ _ _ => (pg_n 1 S.nd)) (fun _ _ _ _ _ => pts_nil) (fun _ _ _ _ _ => (pe_and (pe_callB (call_isiU (isF T)) (by rfl) (T.free 10) bb_isinstance (pa_cons (pv 1) (pa_cons (pe_bltn (v := .ty "tuple") rfl (T.free 19) bt_tuple rfl) pa_nil))) (pe_and (pe_cmpR (op_uEq hr.units) (pe_callB cl_uLen (by rfl) (T.free 1) bb_len (pa_cons (pv 1) pa_nil)) pe_int (nomark _)) (pe_one (pe_cd (ok_is_name T) hr (by omega) passE0 rfl (pa_cons (pe_ix ix_seq (pv 1) pe_int (fun _ _ => rfl)) pa_nil))))))) pa_nil)))) (pss_one (ps_ret pe_bl)) pss_nil)
      (pss_cons (ps_s 2 S.nd (pe_lc (own := [("row", 1)]) rfl S.nd (pi_u (pv 0)) (blkOk_by (own := [("row", 1)]) (by kernel_rfl)) (fun _ _ _ _ _ => (pg_n 1 S.nd)) (fun _ _ _ _ _ => pts_nil) (fun _ _ _ _ _ => (pe_ix ix_seq (pv 1) pe_int (fun _ _ => rfl)))))
      (pss_one (ps_ret (pe_callB (cr_all rfl) (by rfl) (T.free 29) bb_all (pa_cons (pe_lc (own := [("at", 3), ("name", 4)]) rfl S.nd (pi_enumU (by rfl) (T.free 46) (pa_cons (pv 2) pa_nil)) (blkOk_by (own := [("at", 3), ("name", 4)]) (by kernel_rfl)) (fun _ _ _ _ _ => (pg_tup rfl (pgs_cons (pg_n 3 S.nd) (pgs_cons (pg_n 4 S.nd) pgs_nil)))) (fun _ _ _ _ _ => pts_nil) (fun _ _ _ _ _ => (pe_cmpR (op_vNin (units65 hr)) (pv 4) (pe_slice sl_u (pv 2) po_none (po_some (pv 3))) (by rfl)))) pa_nil)))))))
theorem sc_Function___init : FnScope ["self", "name", "arguments", "result", "label", "writes", "cost", "row"] ["self", "name", "arguments", "result", "label", "writes", "cost"] (defScope st_Function___init) := ⟨rfl, rfl, rfl, by decide +kernel, rfl, by decide +kernel, by decide +kernel⟩
theorem okN_Function___init (T : Hd w K mg base) : CkN P w K mg base 6 "Function" (He.ga K "Function") (sp_Function___init K) 3 ["label", "writes", "cost"] := by
  obtain ⟨fd2, F⟩ := T.def_ 26 (d := d_Function___init)
  have S := sc_Function___init
  refine ⟨_, fd2, ["self", "name", "arguments", "result", "label", "writes", "cost"], T.mkr 49, F.ok S (fun vs H Q E h => (w_Function___init (kf T) E).len h) (fun cdv A outer s H vs Q E hr h => ⟨t_Function___init K E, ?_, (w_Function___init (kf T) E).body h⟩), T.glo 50, kbn_kw F (by simp [He.DefD.kws, d_Function___init]) (fun _ _ _ _ _ _ us ws hu hw => match us, ws, hu, hw with | [_, _, _, _], [_, _, _], _, _ => rfl)⟩
  exact (pss_cons (ps_if (pt_not (pt_val (pe_cd (ok_is_name T) hr (by omega) passE0 rfl (pa_cons (pv 1) pa_nil)))) (pss_one (ps_raise rfl (takes_of rfl rfl rfl rfl) (pmk_x (ox_BadPart T) hr (by omega) rfl (pa_cons pe_str pa_nil)))) pss_nil)
      (pss_cons (ps_if (pt_not (pt_val (pe_cd (ok_is_between T) hr (by omega) passE0 rfl (pa_cons (pv 2) (pa_cons pe_int (pa_cons (C8.pe_gc rfl (T.int 32)) pa_nil)))))) (pss_one (ps_raise rfl (takes_of rfl rfl rfl rfl) (pmk_x (ox_BadPart T) hr (by omega) rfl (pa_cons pe_str pa_nil)))) pss_nil)
      (pss_cons (ps_oSet (fld_label T _ (by simp [fC_label])) (pv 0) (pe_cd (ok_made_label T) hr (by omega) (passes_call (takes_of rfl rfl rfl rfl) fun _ _ _ _ h => h) rfl (pa_cons (pv 4) pa_nil)) rfl)
      (pss_cons (ps_if (pt_not (pt_val (pe_cd (ok_is_term T) hr (by omega) passE0 rfl (pa_cons (pv 3) (pa_cons (pv 2) pa_nil))))) (pss_one (ps_raise rfl (takes_of rfl rfl rfl rfl) (pmk_x (ox_BadTerm T) hr (by omega) rfl (pa_cons (pv 3) pa_nil)))) pss_nil)
      (pss_cons (ps_if (pt_not (pt_val (pe_cd (ok_are_writes T) hr (by omega) passE0 rfl (pa_cons (pv 5) pa_nil)))) (pss_one (ps_raise rfl (takes_of rfl rfl rfl rfl) (pmk_x (ox_BadPart T) hr (by omega) rfl (pa_cons pe_str pa_nil)))) pss_nil)
      (pss_cons (ps_for (passes_of rfl) rfl (pi_u (pv 5)) (pg_n 7 S.nd) (pss_one (ps_if (pt_not (pt_val (pe_cd (ok_is_term T) hr (by omega) passE0 rfl (pa_cons (pe_ix ix_seq (pv 7) pe_int (fun _ _ => rfl)) (pa_cons (pv 2) pa_nil))))) (pss_one (ps_raise rfl (takes_of rfl rfl rfl rfl) (pmk_x (ox_BadTerm T) hr (by omega) rfl (pa_cons (pe_ix ix_seq (pv 7) pe_int (fun _ _ => rfl)) pa_nil)))) pss_nil)))
      (pss_cons (ps_if (pt_not (pt_val (pe_cd (ok_is_between T) hr (by omega) passE0 rfl (pa_cons (pv 6) (pa_cons pe_int (pa_cons (C8.pe_gc rfl (T.int 48)) pa_nil)))))) (pss_one (ps_raise rfl (takes_of rfl rfl rfl rfl) (pmk_x (ox_BadPart T) hr (by omega) rfl (pa_cons pe_str pa_nil)))) pss_nil)
      (pss_cons (ps_oSet (fld_name T _ (by simp [fC_name])) (pv 0) (pv 1) rfl)
      (pss_cons (ps_oSet (fld_arguments T _ (by simp [fC_arguments])) (pv 0) (pv 2) rfl)
      (pss_cons (ps_oSet (fld_result T _ (by simp [fC_result])) (pv 0) (pv 3) rfl)
      (pss_cons (ps_oSet (fld_writes T _ (by simp [fC_writes])) (pv 0) (pe_callTy cl_uTuple (by rfl) (T.free 19) bt_tuple (pa_cons (pv 5) pa_nil)) rfl)
      (pss_one (ps_oSet (fld_cost T _ (by simp [fC_cost])) (pv 0) (pv 6) rfl)))))))))))))
theorem sc_Function_with_parts : FnScope ["self", "result", "label", "writes", "cost"] ["self", "result", "label", "writes", "cost"] (defScope st_Function_with_parts) := ⟨rfl, rfl, rfl, by decide +kernel, rfl, by decide +kernel, by decide +kernel⟩
theorem ok_Function_with_parts (T : Hd w K mg base) : Cm P w K mg base 8 (He.ga K "Function") "with_parts" (sp_Function_with_parts K) [] := by
  obtain ⟨fd, F⟩ := T.def_ 27 (d := d_Function_with_parts)
  have S := sc_Function_with_parts
  refine ⟨_, fd, ["self", "result", "label", "writes", "cost"], [], T.cls 51, T.meth 52, F.ok S (fun vs H Q E h => (w_Function_with_parts (kf T) E).len h) (fun cdv A outer s H vs Q E hr h => ⟨t_Function_with_parts K E, ?_, (w_Function_with_parts (kf T) E).body h⟩), F.bindsN fun _ _ _ _ _ _ us hl => match us, hl with | [_, _, _, _, _], _ => rfl, .nil⟩
  exact (pss_one (ps_ret (pe_ckN (okN_Function___init T) hr (by omega) (passes_call (takes_of rfl rfl rfl rfl) fun _ _ _ _ h => h) rfl (pa_cons (pe_oFld (fld_name T) (pv 0) rfl) (pa_cons (pe_oFld (fld_arguments T) (pv 0) rfl) (pa_cons (pv 1) pa_nil))) (pk_cons (pv 2) (pk_cons (pv 3) (pk_cons (pv 4) pk_nil))))))
theorem sc_Function_labelled : FnScope ["self", "label"] ["self", "label"] (defScope st_Function_labelled) := ⟨rfl, rfl, rfl, by decide +kernel, rfl, by decide +kernel, by decide +kernel⟩
theorem ok_Function_labelled (T : Hd w K mg base) : Cm P w K mg base 9 (He.ga K "Function") "labelled" (sp_Function_labelled K) [] := by
  obtain ⟨fd, F⟩ := T.def_ 28 (d := d_Function_labelled)
  have S := sc_Function_labelled
  refine ⟨_, fd, ["self", "label"], [], T.cls 51, T.meth 53, F.ok S (fun vs H Q E h => (w_Function_labelled (kf T) E).len h) (fun cdv A outer s H vs Q E hr h => ⟨t_Function_labelled K E, ?_, (w_Function_labelled (kf T) E).body h⟩), F.bindsN fun _ _ _ _ _ _ us hl => match us, hl with | [_, _], _ => rfl, .nil⟩
  exact (pss_one (ps_ret (pe_cm (ok_Function_with_parts T) hr (by omega) (passes_call (takes_of rfl rfl rfl rfl) fun _ _ _ _ h => h) (pv 0) (pa_cons (pe_oFld (fld_result T) (pv 0) rfl) (pa_cons (pv 1) (pa_cons (pe_oFld (fld_writes T) (pv 0) rfl) (pa_cons (pe_oFld (fld_cost T) (pv 0) rfl) pa_nil)))))))
theorem sc_law_heard_labelled : FnScope ["made", "thing"] ["made", "thing"] (defScope st_law_heard_labelled) := ⟨rfl, rfl, rfl, by decide +kernel, rfl, by decide +kernel, by decide +kernel⟩
theorem ok_law_heard_labelled (T : Hd w K mg base) : Cd P w K mg base 12 "_law_heard_labelled" (sp_law_heard_labelled K) [] := by
  obtain ⟨fd, F⟩ := T.def_ 29 (d := d_law_heard_labelled)
  have S := sc_law_heard_labelled
  have hB : Binds K fd ["made", "thing"] [] := F.bindsN fun _ _ _ _ _ _ us hl => match us, hl with | [_, _], _ => rfl
  have kp := F.kp
  obtain ⟨oc, od, dV, kV, doc, pm, an, cdv, ct, osl, rfl, lk, hcd, _, _⟩ := F.ex
  obtain ⟨c0, rfl⟩ := He.codeIn_ref hcd
  have hc0 : c0 = (He.cT K ("_law_heard_labelled", none)).1 := (He.codeOf_eq lk rfl).symm
  refine ⟨_, _, ["made", "thing"], [], fn_of lk hcd S (fun vs H Q E h => (w_law_heard_labelled (kf T) E).len h) (fun A outer s H vs Q E hr h => ⟨t_law_heard_labelled K E, ?_, (w_law_heard_labelled (kf T) E).body h⟩), T.glo 54, kp, hB, .nil⟩
  exact (pss_one (ps_ret (lamc_law_heard T (nm := "_law_heard_labelled") (M := []) (by decide) rfl (congrArg Value.ref hc0) hr (lamT_by (by kernel_rfl)) (fun A outer s H E f c' hr => (pe_oFld (fld_name T) (pe_cm (ok_Function_labelled T) hr (by omega) (passes_call (takes_of rfl rfl rfl rfl) fun _ _ _ _ h => h) (pv 0) (pa_cons (pv 1) pa_nil)) rfl)))))
theorem sc_law_lo_is_name : FnScope ["thing", "sign"] ["thing"] (defScope st_law_lo_is_name) := ⟨rfl, rfl, rfl, by decide +kernel, rfl, by decide +kernel, by decide +kernel⟩
theorem ok_law_lo_is_name (T : Hd w K mg base) : Cd P w K mg base 1 "_law_lo_is_name" (sp_law_lo_is_name K) [] := by
  obtain ⟨fd, F⟩ := T.def_ 30 (d := d_law_lo_is_name)
  have S := sc_law_lo_is_name
  refine ⟨_, fd, ["thing"], [], F.ok S (fun vs H Q E h => (w_law_lo_is_name (kf T) E).len h) (fun cdv A outer s H vs Q E hr h => ⟨t_law_lo_is_name K E, ?_, (w_law_lo_is_name (kf T) E).body h⟩), T.glo 55, F.kp, F.bindsN fun _ _ _ _ _ _ us hl => match us, hl with | [_], _ => rfl, .nil⟩
  exact (pss_cons (ps_if (PW.pt (pw_or (pt_not (pt_val (pe_callB (call_isiU (isF T)) (by rfl) (T.free 10) bb_isinstance (pa_cons (pv 0) (pa_cons (pe_bltn (v := .ty "str") rfl (T.free 11) bt_str rfl) pa_nil))))) (pw_or1 (pt_not (pt_chain op_uLe op_uLe pe_int (pe_callB cl_uLen (by rfl) (T.free 1) bb_len (pa_cons (pv 0) pa_nil)) pe_int))))) (pss_one (ps_ret pe_bl)) pss_nil)
      (pss_one (ps_ret (pe_cmpR (op_uEq hr.units) (pe_lc (own := [("sign", 1)]) rfl S.nd (pi_u (pv 0)) (blkOk_by (own := [("sign", 1)]) (by kernel_rfl)) (fun _ _ _ _ _ => (pg_n 1 S.nd)) (fun _ _ _ _ _ => (pts_one (pt_cmpR (op_vNin (units65 hr)) (pv 1) pe_str (by rfl)))) (fun _ _ _ _ _ => (pv 1))) (pe_lst pa_nil) (nomark _)))))
theorem sc_law_lo_is_whole : FnScope ["thing", "low", "high"] ["thing", "low", "high"] (defScope st_law_lo_is_whole) := ⟨rfl, rfl, rfl, by decide +kernel, rfl, by decide +kernel, by decide +kernel⟩
theorem ok_law_lo_is_whole (T : Hd w K mg base) : Cd P w K mg base 1 "_law_lo_is_whole" (sp_law_lo_is_whole K) [] := by
  obtain ⟨fd, F⟩ := T.def_ 31 (d := d_law_lo_is_whole)
  have S := sc_law_lo_is_whole
  refine ⟨_, fd, ["thing", "low", "high"], [], F.ok S (fun vs H Q E h => (w_law_lo_is_whole K E).len h) (fun cdv A outer s H vs Q E hr h => ⟨t_law_lo_is_whole K E, ?_, (w_law_lo_is_whole K E).body h⟩), T.glo 56, F.kp, F.bindsN fun _ _ _ _ _ _ us hl => match us, hl with | [_, _, _], _ => rfl, .nil⟩
  exact (pss_one (ps_ret (pe_and (pe_callB (call_isiU (isF T)) (by rfl) (T.free 10) bb_isinstance (pa_cons (pv 0) (pa_cons (pe_bltn (v := .ty "int") rfl (T.free 3) bt_int rfl) pa_nil))) (pe_and (pe_not (pe_callB (call_isiU (isF T)) (by rfl) (T.free 10) bb_isinstance (pa_cons (pv 0) (pa_cons (pe_bltn (v := .ty "bool") rfl (T.free 23) bt_bool rfl) pa_nil)))) (pe_one (pe_chain op_uLe op_uLe (pv 1) (pv 0) (pv 2)))))))
theorem sc_law_lo_is_formed : FnScope ["thing", "arguments", "deep", "word", "many", "wide", "arm"] ["thing", "arguments", "deep"] (defScope st_law_lo_is_formed) := ⟨rfl, rfl, rfl, by decide +kernel, rfl, by decide +kernel, by decide +kernel⟩
theorem ok_law_lo_is_formed (T : Hd w K mg base) : ∀ n, Cd P w K mg base (2 + n) "_law_lo_is_formed" (sp_law_lo_is_formed n K) []
  | 0 => by
    obtain ⟨fd, F⟩ := T.def_ 32 (d := d_law_lo_is_formed)
    refine ⟨_, fd, ["thing", "arguments", "deep"], [], F.ok (k := 1) sc_law_lo_is_formed (fun vs H Q E h => (no_law_lo_is_formed h).elim) (fun cdv A outer s H vs Q E hr h => (no_law_lo_is_formed h).elim), T.glo 57, F.kp, F.bindsN fun _ _ _ _ _ _ us hl => match us, hl with | [_, _, _], _ => rfl, .nil⟩
  | n + 1 => by
    have IH := ok_law_lo_is_formed T n
    obtain ⟨fd, F⟩ := T.def_ 32 (d := d_law_lo_is_formed)
    have S := sc_law_lo_is_formed
    refine ⟨_, fd, ["thing", "arguments", "deep"], [], F.ok (k := 2 + n) S (fun vs H Q E h => (w_law_lo_is_formed n K E).len h) (fun cdv A outer s H vs Q E hr h => ⟨t_law_lo_is_formed n K E, ?_, (w_law_lo_is_formed n K E).body h⟩), T.glo 57, F.kp, F.bindsN fun _ _ _ _ _ _ us hl => match us, hl with | [_, _, _], _ => rfl, .nil⟩
    exact (pss_cons (ps_if (pt_not (pt_val (pe_callB (call_isiU (isF T)) (by rfl) (T.free 10) bb_isinstance (pa_cons (pv 0) (pa_cons (pe_bltn (v := .ty "tuple") rfl (T.free 19) bt_tuple rfl) pa_nil))))) (pss_one (ps_ret (pe_cd (ok_law_lo_is_whole T) hr (by omega) passE0 rfl (pa_cons (pv 0) (pa_cons pe_int (pa_cons pe_int pa_nil)))))) pss_nil)
      (pss_cons (ps_if (PW.pt (pw_or (pt_cmpR (op_uEq hr.units) (pv 0) (pe_tup pa_nil) (nomark _)) (pw_or (pt_not (pt_val (pe_callB (call_isiU (isF T)) (by rfl) (T.free 10) bb_isinstance (pa_cons (pe_ix ix_seq (pv 0) pe_int (fun _ _ => rfl)) (pa_cons (pe_bltn (v := .ty "str") rfl (T.free 11) bt_str rfl) pa_nil))))) (pw_or1 (pt_cmpR (op_vLt (units0 hr)) (pv 2) pe_int (nomark _)))))) (pss_one (ps_ret pe_bl)) pss_nil)
      (pss_cons (ps_par (i := 3) (j := 4) rfl S.nd rfl rfl (by decide) rfl rfl (pa_cons (pe_ix ix_seq (pv 0) pe_int (fun _ _ => rfl)) (pa_cons (pe_callB cl_uLen (by rfl) (T.free 1) bb_len (pa_cons (pv 0) pa_nil)) pa_nil)) (by rfl))
      (pss_cons (ps_if (pt_cmpR (op_uEq hr.units) (pv 3) pe_str (nomark _)) (pss_one (ps_ret (pe_cmpR (op_uEq hr.units) (pv 4) pe_int (nomark _)))) pss_nil)
      (pss_cons (ps_if (pt_cmpR (op_uEq hr.units) (pv 3) pe_str (nomark _)) (pss_one (ps_ret (pe_and (pe_cmpR (op_uEq hr.units) (pv 4) pe_int (nomark _)) (pe_one (pe_cd (ok_law_lo_is_whole T) hr (by omega) passE0 rfl (pa_cons (pe_ix ix_seq (pv 0) pe_int (fun _ _ => rfl)) (pa_cons pe_int (pa_cons (pe_op op_uSub (pv 1) pe_int) pa_nil)))))))) pss_nil)
      (pss_cons (ps_if (pt_cmpR (op_uEq hr.units) (pv 3) pe_str (nomark _)) (pss_one (ps_ret (pe_and (pe_cmpR (op_uEq hr.units) (pv 4) pe_int (nomark _)) (pe_one (pe_cd (ok_law_lo_is_name T) hr (by omega) passE0 rfl (pa_cons (pe_ix ix_seq (pv 0) pe_int (fun _ _ => rfl)) pa_nil)))))) pss_nil)
      (pss_cons (ps_if (pt_cmpR (op_vIn (units65 hr)) (pv 3) (pe_lst (pa_cons pe_str (pa_cons pe_str (pa_cons pe_str (pa_cons pe_str pa_nil))))) (by rfl)) (pss_cons (ps_s 5 S.nd (pe_ifExp (pt_cmpR (op_uEq hr.units) (pv 3) pe_str (nomark _)) pe_int pe_int))
      (pss_one (ps_ret (pe_and (pe_cmpR (op_uEq hr.units) (pv 4) (pv 5) (nomark _)) (pe_one (pe_cmpR (op_uEq hr.units) (pe_lc (own := [("arm", 6)]) rfl S.nd (pi_u (pe_slice sl_u (pv 0) (po_some pe_int) po_none)) (blkOk_by (own := [("arm", 6)]) (by kernel_rfl)) (fun _ _ _ _ _ => (pg_n 6 S.nd)) (fun _ _ _ _ _ => (pts_one (pt_not (pt_val (pe_cd IH hr (by omega) passE0 rfl (pa_cons (pv 6) (pa_cons (pv 1) (pa_cons (pe_op op_uSub (pv 2) pe_int) pa_nil)))))))) (fun _ _ _ _ _ => (pv 6))) (pe_lst pa_nil) (nomark _))))))) pss_nil)
      (pss_cons (ps_if (PW.pt (pw_or (pt_cmpR (op_uNe hr.units) (pv 3) pe_str (nomark _)) (pw_or (pt_cmpR (op_uNe hr.units) (pv 4) pe_int (nomark _)) (pw_or1 (pt_not (pt_val (pe_cd (ok_law_lo_is_name T) hr (by omega) passE0 rfl (pa_cons (pe_ix ix_seq (pv 0) pe_int (fun _ _ => rfl)) pa_nil)))))))) (pss_one (ps_ret pe_bl)) pss_nil)
      (pss_cons (ps_if (PW.pt (pw_or (pt_not (pt_val (pe_callB (call_isiU (isF T)) (by rfl) (T.free 10) bb_isinstance (pa_cons (pe_ix ix_seq (pv 0) pe_int (fun _ _ => rfl)) (pa_cons (pe_bltn (v := .ty "tuple") rfl (T.free 19) bt_tuple rfl) pa_nil))))) (pw_or1 (pt_cmpR op_uGt (pe_callB cl_uLen (by rfl) (T.free 1) bb_len (pa_cons (pe_ix ix_seq (pv 0) pe_int (fun _ _ => rfl)) pa_nil)) pe_int (nomark _))))) (pss_one (ps_ret pe_bl)) pss_nil)
      (pss_one (ps_ret (pe_cmpR (op_uEq hr.units) (pe_lc (own := [("arm", 6)]) rfl S.nd (pi_u (pe_ix ix_seq (pv 0) pe_int (fun _ _ => rfl))) (blkOk_by (own := [("arm", 6)]) (by kernel_rfl)) (fun _ _ _ _ _ => (pg_n 6 S.nd)) (fun _ _ _ _ _ => (pts_one (pt_not (pt_val (pe_cd IH hr (by omega) passE0 rfl (pa_cons (pv 6) (pa_cons (pv 1) (pa_cons (pe_op op_uSub (pv 2) pe_int) pa_nil)))))))) (fun _ _ _ _ _ => (pv 6))) (pe_lst pa_nil) (nomark _)))))))))))))
theorem sc_law_lo_arms : FnScope ["term"] ["term"] (defScope st_law_lo_arms) := ⟨rfl, rfl, rfl, by decide +kernel, rfl, by decide +kernel, by decide +kernel⟩
theorem ok_law_lo_arms (T : Hd w K mg base) : Cd P w K mg base 1 "_law_lo_arms" (sp_law_lo_arms K) [] := by
  obtain ⟨fd, F⟩ := T.def_ 33 (d := d_law_lo_arms)
  have S := sc_law_lo_arms
  refine ⟨_, fd, ["term"], [], F.ok S (fun vs H Q E h => (w_law_lo_arms (kf T) E).len h) (fun cdv A outer s H vs Q E hr h => ⟨t_law_lo_arms K E, ?_, (w_law_lo_arms (kf T) E).body h⟩), T.glo 58, F.kp, F.bindsN fun _ _ _ _ _ _ us hl => match us, hl with | [_], _ => rfl, .nil⟩
  exact (pss_cons (ps_if (pt_not (pt_val (pe_callB (call_isiU (isF T)) (by rfl) (T.free 10) bb_isinstance (pa_cons (pv 0) (pa_cons (pe_bltn (v := .ty "tuple") rfl (T.free 19) bt_tuple rfl) pa_nil))))) (pss_one (ps_ret (pe_lst pa_nil))) pss_nil)
      (pss_cons (ps_if (pt_cmpR (op_vIn (units65 hr)) (pe_ix ix_seq (pv 0) pe_int (fun _ _ => rfl)) (pe_lst (pa_cons pe_str (pa_cons pe_str (pa_cons pe_str (pa_cons pe_str pa_nil))))) (by rfl)) (pss_one (ps_ret (pe_callTy cl_uList (by rfl) (T.free 40) bt_list (pa_cons (pe_slice sl_u (pv 0) (po_some pe_int) po_none) pa_nil)))) pss_nil)
      (pss_one (ps_ret (pe_ifExp (pt_cmpR (op_uEq hr.units) (pe_ix ix_seq (pv 0) pe_int (fun _ _ => rfl)) pe_str (nomark _)) (pe_callTy cl_uList (by rfl) (T.free 40) bt_list (pa_cons (pe_ix ix_seq (pv 0) pe_int (fun _ _ => rfl)) pa_nil)) (pe_lst pa_nil))))))
theorem sc_law_lo_size : FnScope ["term", "arm"] ["term"] (defScope st_law_lo_size) := ⟨rfl, rfl, rfl, by decide +kernel, rfl, by decide +kernel, by decide +kernel⟩
theorem ok_law_lo_size (T : Hd w K mg base) : ∀ n, Cd P w K mg base (2 + n) "_law_lo_size" (sp_law_lo_size n K) []
  | 0 => by
    obtain ⟨fd, F⟩ := T.def_ 34 (d := d_law_lo_size)
    refine ⟨_, fd, ["term"], [], F.ok (k := 1) sc_law_lo_size (fun vs H Q E h => (no_law_lo_size h).elim) (fun cdv A outer s H vs Q E hr h => (no_law_lo_size h).elim), T.glo 60, F.kp, F.bindsN fun _ _ _ _ _ _ us hl => match us, hl with | [_], _ => rfl, .nil⟩
  | n + 1 => by
    have IH := ok_law_lo_size T n
    obtain ⟨fd, F⟩ := T.def_ 34 (d := d_law_lo_size)
    have S := sc_law_lo_size
    refine ⟨_, fd, ["term"], [], F.ok (k := 2 + n) S (fun vs H Q E h => (w_law_lo_size n K E).len h) (fun cdv A outer s H vs Q E hr h => ⟨t_law_lo_size n K E, ?_, (w_law_lo_size n K E).body h⟩), T.glo 60, F.kp, F.bindsN fun _ _ _ _ _ _ us hl => match us, hl with | [_], _ => rfl, .nil⟩
    exact (pss_one (ps_ret (pe_op op_uAdd pe_int (pe_callB (cr_sum rfl) (by rfl) (T.free 59) bb_sum (pa_cons (pe_lc (own := [("arm", 1)]) rfl S.nd (pi_u (pe_cd (ok_law_lo_arms T) hr (by omega) passE0 rfl (pa_cons (pv 0) pa_nil))) (blkOk_by (own := [("arm", 1)]) (by kernel_rfl)) (fun _ _ _ _ _ => (pg_n 1 S.nd)) (fun _ _ _ _ _ => pts_nil) (fun _ _ _ _ _ => (pe_cd IH hr (by omega) passE0 rfl (pa_cons (pv 1) pa_nil)))) pa_nil)))))
theorem sc_law_lo_depth : FnScope ["term", "deep", "arm"] ["term"] (defScope st_law_lo_depth) := ⟨rfl, rfl, rfl, by decide +kernel, rfl, by decide +kernel, by decide +kernel⟩
theorem ok_law_lo_depth (T : Hd w K mg base) : ∀ n, Cd P w K mg base (2 + n) "_law_lo_depth" (sp_law_lo_depth n K) []
  | 0 => by
    obtain ⟨fd, F⟩ := T.def_ 35 (d := d_law_lo_depth)
    refine ⟨_, fd, ["term"], [], F.ok (k := 1) sc_law_lo_depth (fun vs H Q E h => (no_law_lo_depth h).elim) (fun cdv A outer s H vs Q E hr h => (no_law_lo_depth h).elim), T.glo 61, F.kp, F.bindsN fun _ _ _ _ _ _ us hl => match us, hl with | [_], _ => rfl, .nil⟩
  | n + 1 => by
    have IH := ok_law_lo_depth T n
    obtain ⟨fd, F⟩ := T.def_ 35 (d := d_law_lo_depth)
    have S := sc_law_lo_depth
    refine ⟨_, fd, ["term"], [], F.ok (k := 2 + n) S (fun vs H Q E h => (w_law_lo_depth n K E).len h) (fun cdv A outer s H vs Q E hr h => ⟨t_law_lo_depth n K E, ?_, (w_law_lo_depth n K E).body h⟩), T.glo 61, F.kp, F.bindsN fun _ _ _ _ _ _ us hl => match us, hl with | [_], _ => rfl, .nil⟩
    exact (pss_cons (ps_s 1 S.nd pe_int)
      (pss_cons (ps_for (passes_of rfl) rfl (pi_u (pe_cd (ok_law_lo_arms T) hr (by omega) passE0 rfl (pa_cons (pv 0) pa_nil))) (pg_n 2 S.nd) (pss_one (ps_s 1 S.nd (pe_callB (cl_uMax2 rfl) (by rfl) (T.free 2) bb_max (pa_cons (pe_callTy cl_uInt (by rfl) (T.free 3) bt_int (pa_cons (pv 1) pa_nil)) (pa_cons (pe_callTy cl_uInt (by rfl) (T.free 3) bt_int (pa_cons (pe_cd IH hr (by omega) passE0 rfl (pa_cons (pv 2) pa_nil)) pa_nil)) pa_nil))))))
      (pss_one (ps_ret (pe_op op_uAdd pe_int (pv 1))))))
theorem sc_law_lo_is_term : FnScope ["thing", "arguments"] ["thing", "arguments"] (defScope st_law_lo_is_term) := ⟨rfl, rfl, rfl, by decide +kernel, rfl, by decide +kernel, by decide +kernel⟩
theorem ok_law_lo_is_term (T : Hd w K mg base) : Cd P w K mg base 27 "_law_lo_is_term" (sp_law_lo_is_term K) [] := by
  obtain ⟨fd, F⟩ := T.def_ 36 (d := d_law_lo_is_term)
  have S := sc_law_lo_is_term
  refine ⟨_, fd, ["thing", "arguments"], [], F.ok S (fun vs H Q E h => (w_law_lo_is_term (kf T) E).len h) (fun cdv A outer s H vs Q E hr h => ⟨t_law_lo_is_term K E, ?_, (w_law_lo_is_term (kf T) E).body h⟩), T.glo 62, F.kp, F.bindsN fun _ _ _ _ _ _ us hl => match us, hl with | [_, _], _ => rfl, .nil⟩
  exact (pss_one (ps_ret (pe_and (pe_cd (ok_law_lo_is_formed T 24) hr (by omega) passE0 rfl (pa_cons (pv 0) (pa_cons (pv 1) (pa_cons pe_int pa_nil)))) (pe_and (pe_cmpR op_uLe (pe_cd (ok_law_lo_size T 24) hr (by omega) passE0 rfl (pa_cons (pv 0) pa_nil)) pe_int (nomark _)) (pe_one (pe_cmpR op_uLe (pe_cd (ok_law_lo_depth T 24) hr (by omega) passE0 rfl (pa_cons (pv 0) pa_nil)) pe_int (nomark _)))))))
theorem sc_law_is_writes : FnScope ["thing", "pair", "names", "i"] ["thing"] (defScope st_law_is_writes) := ⟨rfl, rfl, rfl, by decide +kernel, rfl, by decide +kernel, by decide +kernel⟩
theorem ok_law_is_writes (T : Hd w K mg base) : Cd P w K mg base 2 "_law_is_writes" (sp_law_is_writes K) [] := by
  obtain ⟨fd, F⟩ := T.def_ 37 (d := d_law_is_writes)
  have S := sc_law_is_writes
  refine ⟨_, fd, ["thing"], [], F.ok S (fun vs H Q E h => (w_law_is_writes (kf T) E).len h) (fun cdv A outer s H vs Q E hr h => ⟨t_law_is_writes K E, ?_, (w_law_is_writes (kf T) E).body h⟩), T.glo 63, F.kp, F.bindsN fun _ _ _ _ _ _ us hl => match us, hl with | [_], _ => rfl, .nil⟩
  exact (pss_cons (ps_if (PW.pt (pw_or (PW.pt (pw_and (pt_not (pt_val (pe_callB (call_isiU (isF T)) (by rfl) (T.free 10) bb_isinstance (pa_cons (pv 0) (pa_cons (pe_bltn (v := .ty "list") rfl (T.free 40) bt_list rfl) pa_nil))))) (pw_and1 (pt_not (pt_val (pe_callB (call_isiU (isF T)) (by rfl) (T.free 10) bb_isinstance (pa_cons (pv 0) (pa_cons (pe_bltn (v := .ty "tuple") rfl (T.free 19) bt_tuple rfl) pa_nil)))))))) (pw_or1 (pt_cmpR op_uGt (pe_callB cl_uLen (by rfl) (T.free 1) bb_len (pa_cons (pv 0) pa_nil)) pe_int (nomark _))))) (pss_one (ps_ret pe_bl)) pss_nil)
      (pss_cons (ps_for (passes_of rfl) rfl (pi_u (pv 0)) (pg_n 1 S.nd) (pss_one (ps_if (PW.pt (pw_or (pt_not (pt_val (pe_callB (call_isiU (isF T)) (by rfl) (T.free 10) bb_isinstance (pa_cons (pv 1) (pa_cons (pe_bltn (v := .ty "tuple") rfl (T.free 19) bt_tuple rfl) pa_nil))))) (pw_or (pt_cmpR (op_uNe hr.units) (pe_callB cl_uLen (by rfl) (T.free 1) bb_len (pa_cons (pv 1) pa_nil)) pe_int (nomark _)) (pw_or1 (pt_not (pt_val (pe_cd (ok_law_lo_is_name T) hr (by omega) passE0 rfl (pa_cons (pe_ix ix_seq (pv 1) pe_int (fun _ _ => rfl)) pa_nil)))))))) (pss_one (ps_ret pe_bl)) pss_nil)))
      (pss_cons (ps_s 2 S.nd (pe_lc (own := [("pair", 1)]) rfl S.nd (pi_u (pv 0)) (blkOk_by (own := [("pair", 1)]) (by kernel_rfl)) (fun _ _ _ _ _ => (pg_n 1 S.nd)) (fun _ _ _ _ _ => pts_nil) (fun _ _ _ _ _ => (pe_ix ix_seq (pv 1) pe_int (fun _ _ => rfl)))))
      (pss_one (ps_ret (pe_cmpR (op_uEq hr.units) (pe_lc (own := [("i", 3)]) rfl S.nd (pi_range1 (by rfl) (T.free 0) (pa_cons (pe_callB cl_uLen (by rfl) (T.free 1) bb_len (pa_cons (pv 2) pa_nil)) pa_nil)) (blkOk_by (own := [("i", 3)]) (by kernel_rfl)) (fun _ _ _ _ _ => (pg_n 3 S.nd)) (fun _ _ _ _ _ => (pts_one (pt_cmpR (op_vIn (units65 hr)) (pe_ix ix_seq (pv 2) (pv 3) (fun _ _ => rfl)) (pe_slice sl_u (pv 2) po_none (po_some (pv 3))) (by rfl)))) (fun _ _ _ _ _ => (pv 3))) (pe_lst pa_nil) (nomark _)))))))
theorem sc_law_lo_labels : FnScope [] [] (defScope st_law_lo_labels) := ⟨rfl, rfl, rfl, by decide +kernel, rfl, by decide +kernel, by decide +kernel⟩
theorem ok_law_lo_labels (T : Hd w K mg base) : Cd P w K mg base 1 "_law_lo_labels" (sp_law_lo_labels K) [] := by
  obtain ⟨fd, F⟩ := T.def_ 38 (d := d_law_lo_labels)
  have S := sc_law_lo_labels
  refine ⟨_, fd, [], [], F.ok S (fun vs H Q E h => (w_law_lo_labels (kf T) E).len h) (fun cdv A outer s H vs Q E hr h => ⟨t_law_lo_labels K E, ?_, (w_law_lo_labels (kf T) E).body h⟩), T.glo 64, F.kp, F.bindsN fun _ _ _ _ _ _ us hl => match us, hl with | [], _ => rfl, .nil⟩
  exact (pss_one (ps_ret (pe_lst (pa_cons pe_str (pa_cons pe_str (pa_cons pe_str (pa_cons pe_str pa_nil)))))))
theorem sc_law_owed : FnScope ["name", "many", "result", "label", "writes", "cost", "wrong", "cell", "term"] ["name", "many", "result", "label", "writes", "cost"] (defScope st_law_owed) := ⟨rfl, rfl, rfl, by decide +kernel, rfl, by decide +kernel, by decide +kernel⟩
theorem ok_law_owed (T : Hd w K mg base) : Cd P w K mg base 28 "_law_owed" (sp_law_owed K) [] := by
  obtain ⟨fd, F⟩ := T.def_ 39 (d := d_law_owed)
  have S := sc_law_owed
  refine ⟨_, fd, ["name", "many", "result", "label", "writes", "cost"], [], F.ok S (fun vs H Q E h => (w_law_owed (kf T) E).len h) (fun cdv A outer s H vs Q E hr h => ⟨t_law_owed K E, ?_, (w_law_owed (kf T) E).body h⟩), T.glo 65, F.kp, F.bindsN fun _ _ _ _ _ _ us hl => match us, hl with | [_, _, _, _, _, _], _ => rfl, .nil⟩
  exact (pss_cons (ps_if (pt_not (pt_val (pe_cd (ok_law_lo_is_name T) hr (by omega) passE0 rfl (pa_cons (pv 0) pa_nil)))) (pss_one (ps_ret (pe_tup (pa_cons pe_str (pa_cons pe_str pa_nil))))) pss_nil)
      (pss_cons (ps_if (pt_not (pt_val (pe_cd (ok_law_lo_is_whole T) hr (by omega) passE0 rfl (pa_cons (pv 1) (pa_cons pe_int (pa_cons pe_int pa_nil)))))) (pss_one (ps_ret (pe_tup (pa_cons pe_str (pa_cons pe_str pa_nil))))) pss_nil)
      (pss_cons (ps_if (PW.pt (pw_and (pt_not (pt_val (pe_callB (call_isiU (isF T)) (by rfl) (T.free 10) bb_isinstance (pa_cons (pv 3) (pa_cons (C8.pe_gc rfl ⟨_, (T.glo 17), rfl⟩) pa_nil))))) (pw_and1 (PW.pt (pw_or (pt_not (pt_val (pe_callB (call_isiU (isF T)) (by rfl) (T.free 10) bb_isinstance (pa_cons (pv 3) (pa_cons (pe_bltn (v := .ty "str") rfl (T.free 11) bt_str rfl) pa_nil))))) (pw_or1 (pt_cmpR (op_vNin (units65 hr)) (pv 3) (pe_cd0 (ok_law_lo_labels T) hr (by omega) passE0 rfl) (by rfl)))))))) (pss_one (ps_ret (pe_tup (pa_cons pe_str (pa_cons (pv 3) pa_nil))))) pss_nil)
      (pss_cons (ps_if (pt_not (pt_val (pe_cd (ok_law_lo_is_term T) hr (by omega) passE0 rfl (pa_cons (pv 2) (pa_cons (pv 1) pa_nil))))) (pss_one (ps_ret (pe_tup (pa_cons pe_str (pa_cons (pv 2) pa_nil))))) pss_nil)
      (pss_cons (ps_if (pt_not (pt_val (pe_cd (ok_law_is_writes T) hr (by omega) passE0 rfl (pa_cons (pv 4) pa_nil)))) (pss_one (ps_ret (pe_tup (pa_cons pe_str (pa_cons pe_str pa_nil))))) pss_nil)
      (pss_cons (ps_setLc (i := 6) (own := [("cell", 7), ("term", 8)]) rfl S.nd rfl rfl (sw_true rfl rfl rfl (by decide +kernel)) (pi_u (pv 4)) (blkOk_by (own := [("cell", 7), ("term", 8)]) (by kernel_rfl)) (fun _ _ _ _ _ => (pg_tup rfl (pgs_cons (pg_n 7 S.nd) (pgs_cons (pg_n 8 S.nd) pgs_nil)))) (fun _ _ _ _ _ => (pts_one (pt_not (pt_val (pe_cd (ok_law_lo_is_term T) hr (by omega) passE0 rfl (pa_cons (pv 8) (pa_cons (pv 1) pa_nil))))))) (fun _ _ _ _ _ => (pv 8)))
      (pss_cons (ps_if (pt_cmpR (op_uNe hr.units) (pv 6) (pe_lst pa_nil) (nomark _)) (pss_one (ps_ret (pe_tup (pa_cons pe_str (pa_cons (pe_ix ix_seq (pv 6) pe_int (fun _ _ => rfl)) pa_nil))))) pss_nil)
      (pss_one (ps_ret (pe_ifExp (pt_val (pe_cd (ok_law_lo_is_whole T) hr (by omega) passE0 rfl (pa_cons (pv 5) (pa_cons pe_int (pa_cons pe_int pa_nil))))) pe_non (pe_tup (pa_cons pe_str (pa_cons pe_str pa_nil)))))))))))))
theorem sc_Function_changed : FnScope ["self", "part", "value"] ["self", "part", "value"] (defScope st_Function_changed) := ⟨rfl, rfl, rfl, by decide +kernel, rfl, by decide +kernel, by decide +kernel⟩
theorem ok_Function_changed (T : Hd w K mg base) : Cm P w K mg base 9 (He.ga K "Function") "changed" (sp_Function_changed K) [] := by
  obtain ⟨fd, F⟩ := T.def_ 40 (d := d_Function_changed)
  have S := sc_Function_changed
  refine ⟨_, fd, ["self", "part", "value"], [], T.cls 51, T.meth 67, F.ok S (fun vs H Q E h => (w_Function_changed (kf T) E).len h) (fun cdv A outer s H vs Q E hr h => ⟨t_Function_changed K E, ?_, (w_Function_changed (kf T) E).body h⟩), F.bindsN fun _ _ _ _ _ _ us hl => match us, hl with | [_, _, _], _ => rfl, .nil⟩
  exact (pss_cons (ps_if (PW.pt (pw_or (pt_not (pt_val (pe_callB (call_isiU (isF T)) (by rfl) (T.free 10) bb_isinstance (pa_cons (pv 1) (pa_cons (pe_bltn (v := .ty "str") rfl (T.free 11) bt_str rfl) pa_nil))))) (pw_or1 (pt_cmpR (op_vNin (units65 hr)) (pv 1) (C8.pe_gc rfl ⟨_, T.glo 66, rfl⟩) (by rfl))))) (pss_one (ps_raise rfl (takes_of rfl rfl rfl rfl) (pmk_x (ox_BadPart T) hr (by omega) rfl (pa_cons (pv 1) pa_nil)))) pss_nil)
      (pss_cons (ps_if (pt_cmpR (op_uEq hr.units) (pv 1) pe_str (nomark _)) (pss_one (ps_ret (pe_cm (ok_Function_with_parts T) hr (by omega) (passes_call (takes_of rfl rfl rfl rfl) fun _ _ _ _ h => h) (pv 0) (pa_cons (pv 2) (pa_cons (pe_oFld (fld_label T) (pv 0) rfl) (pa_cons (pe_oFld (fld_writes T) (pv 0) rfl) (pa_cons (pe_oFld (fld_cost T) (pv 0) rfl) pa_nil))))))) pss_nil)
      (pss_cons (ps_if (pt_cmpR (op_uEq hr.units) (pv 1) pe_str (nomark _)) (pss_one (ps_ret (pe_cm (ok_Function_with_parts T) hr (by omega) (passes_call (takes_of rfl rfl rfl rfl) fun _ _ _ _ h => h) (pv 0) (pa_cons (pe_oFld (fld_result T) (pv 0) rfl) (pa_cons (pe_oFld (fld_label T) (pv 0) rfl) (pa_cons (pv 2) (pa_cons (pe_oFld (fld_cost T) (pv 0) rfl) pa_nil))))))) pss_nil)
      (pss_one (ps_ret (pe_cm (ok_Function_with_parts T) hr (by omega) (passes_call (takes_of rfl rfl rfl rfl) fun _ _ _ _ h => h) (pv 0) (pa_cons (pe_oFld (fld_result T) (pv 0) rfl) (pa_cons (pe_oFld (fld_label T) (pv 0) rfl) (pa_cons (pe_oFld (fld_writes T) (pv 0) rfl) (pa_cons (pv 2) pa_nil))))))))))
theorem sc_law_heard_changed : FnScope ["made", "part", "worth"] ["made", "part", "worth"] (defScope st_law_heard_changed) := ⟨rfl, rfl, rfl, by decide +kernel, rfl, by decide +kernel, by decide +kernel⟩
theorem ok_law_heard_changed (T : Hd w K mg base) : Cd P w K mg base 12 "_law_heard_changed" (sp_law_heard_changed K) [] := by
  obtain ⟨fd, F⟩ := T.def_ 41 (d := d_law_heard_changed)
  have S := sc_law_heard_changed
  have hB : Binds K fd ["made", "part", "worth"] [] := F.bindsN fun _ _ _ _ _ _ us hl => match us, hl with | [_, _, _], _ => rfl
  have kp := F.kp
  obtain ⟨oc, od, dV, kV, doc, pm, an, cdv, ct, osl, rfl, lk, hcd, _, _⟩ := F.ex
  obtain ⟨c0, rfl⟩ := He.codeIn_ref hcd
  have hc0 : c0 = (He.cT K ("_law_heard_changed", none)).1 := (He.codeOf_eq lk rfl).symm
  refine ⟨_, _, ["made", "part", "worth"], [], fn_of lk hcd S (fun vs H Q E h => (w_law_heard_changed (kf T) E).len h) (fun A outer s H vs Q E hr h => ⟨t_law_heard_changed K E, ?_, (w_law_heard_changed (kf T) E).body h⟩), T.glo 68, kp, hB, .nil⟩
  exact (pss_one (ps_ret (lamc_law_heard T (nm := "_law_heard_changed") (M := []) (by decide) rfl (congrArg Value.ref hc0) hr (lamT_by (by kernel_rfl)) (fun A outer s H E f c' hr => (pe_oFld (fld_name T) (pe_cm (ok_Function_changed T) hr (by omega) (passes_call (takes_of rfl rfl rfl rfl) fun _ _ _ _ h => h) (pv 0) (pa_cons (pv 1) (pa_cons (pv 2) pa_nil))) rfl)))))
theorem sc_law_is_refused : FnScope ["heard_one", "name", "thing", "word", "kept"] ["heard_one", "name", "thing"] (defScope st_law_is_refused) := ⟨rfl, rfl, rfl, by decide +kernel, rfl, by decide +kernel, by decide +kernel⟩
theorem ok_law_is_refused (T : Hd w K mg base) : Cd P w K mg base 1 "_law_is_refused" (sp_law_is_refused K) [] := by
  obtain ⟨fd, F⟩ := T.def_ 42 (d := d_law_is_refused)
  have S := sc_law_is_refused
  refine ⟨_, fd, ["heard_one", "name", "thing"], [], F.ok S (fun vs H Q E h => (w_law_is_refused (kf T) E).len h) (fun cdv A outer s H vs Q E hr h => ⟨t_law_is_refused K E, ?_, (w_law_is_refused (kf T) E).body h⟩), T.glo 69, F.kp, F.bindsN fun _ _ _ _ _ _ us hl => match us, hl with | [_, _, _], _ => rfl, .nil⟩
  exact (pss_cons (ps_asg (pv 0) (pg_tup rfl (pgs_cons (pg_n 3 S.nd) (pgs_cons (pg_n 4 S.nd) pgs_nil))))
      (pss_cons (ps_if (PW.pt (pw_or (pt_cmpR (op_uNe hr.units) (pv 3) (pv 1) (nomark _)) (pw_or1 (pt_cmpR (op_uNe hr.units) (pe_callB (call_isiU (isF T)) (by rfl) (T.free 10) bb_isinstance (pa_cons (pv 4) (pa_cons (pe_bltn (v := .ty "bool") rfl (T.free 23) bt_bool rfl) pa_nil))) (pe_callB (call_isiU (isF T)) (by rfl) (T.free 10) bb_isinstance (pa_cons (pv 2) (pa_cons (pe_bltn (v := .ty "bool") rfl (T.free 23) bt_bool rfl) pa_nil))) (nomark _))))) (pss_one (ps_ret pe_bl)) pss_nil)
      (pss_one (ps_ret (pe_ifExp (pt_cmpR op_uIsN (pv 2) pe_non (nomark _)) (pe_cmpR op_uIsN (pv 4) pe_non (nomark _)) (pe_callTy cl_uBool (by rfl) (T.free 23) bt_bool (pa_cons (pe_cmpR (op_uEq hr.units) (pv 4) (pv 2) (nomark _)) pa_nil)))))))
theorem sc_law_changes_right : FnScope ["jar", "made", "good", "odds", "i", "part", "odd", "row", "owed", "said"] ["jar", "made", "good", "odds"] (defScope st_law_changes_right) := ⟨rfl, rfl, rfl, by decide +kernel, rfl, by decide +kernel, by decide +kernel⟩
theorem ok_law_changes_right (T : Hd w K mg base) : Cd P w K mg base 29 "_law_changes_right" (sp_law_changes_right K) [] := by
  obtain ⟨fd, F⟩ := T.def_ 43 (d := d_law_changes_right)
  have S := sc_law_changes_right
  refine ⟨_, fd, ["jar", "made", "good", "odds"], [], F.ok S (fun vs H Q E h => (w_law_changes_right (kf T)).len h) (fun cdv A outer s H vs Q E hr h => ⟨t_law_changes_right K eN, ?_, (w_law_changes_right (kf T)).body h⟩), T.glo 70, F.kp, F.bindsN fun _ _ _ _ _ _ us hl => match us, hl with | [_, _, _, _], _ => rfl, .nil⟩
  exact (pss_cons (ps_for (passes_of rfl) rfl (pi_u (pe_lst (pa_cons (pe_tup (pa_cons pe_int (pa_cons pe_str pa_nil))) (pa_cons (pe_tup (pa_cons pe_int (pa_cons pe_str pa_nil))) (pa_cons (pe_tup (pa_cons pe_int (pa_cons pe_str pa_nil))) pa_nil))))) (pg_tup rfl (pgs_cons (pg_n 4 S.nd) (pgs_cons (pg_n 5 S.nd) pgs_nil))) (pss_one (ps_for (passes_of rfl) rfl (pi_u (pe_ix ix_seq (pv 3) (pv 4) (fun _ _ => rfl))) (pg_n 6 S.nd) (pss_cons (ps_s 7 S.nd (pe_op op_uAdd (pe_op op_uAdd (pe_slice sl_u (pv 2) po_none (po_some (pv 4))) (pe_lst (pa_cons (pv 6) pa_nil))) (pe_slice sl_u (pv 2) (po_some (pe_op op_uAdd (pv 4) pe_int)) po_none)))
      (pss_cons (ps_s 8 S.nd (pe_cd (ok_law_owed T) hr (by omega) passE0 rfl (pa_cons (pe_ix ix_seq (pv 7) pe_int (fun _ _ => rfl)) (pa_cons (pe_ix ix_seq (pv 7) pe_int (fun _ _ => rfl)) (pa_cons (pe_ix ix_seq (pv 7) pe_int (fun _ _ => rfl)) (pa_cons (pe_ix ix_seq (pv 7) pe_int (fun _ _ => rfl)) (pa_cons (pe_ix ix_seq (pv 7) pe_int (fun _ _ => rfl)) (pa_cons (pe_ix ix_seq (pv 7) pe_int (fun _ _ => rfl)) pa_nil))))))))
      (pss_cons (ps_s 9 S.nd (pe_cd (ok_law_heard_changed T) hr (by omega) passE0 rfl (pa_cons (pv 1) (pa_cons (pv 5) (pa_cons (pv 6) pa_nil)))))
      (pss_cons (ps_if (PW.pt (pw_and (pt_cmpR op_uIsN (pv 8) pe_non (nomark _)) (pw_and1 (pt_not (pt_val (pe_cd (ok_law_yq_same T 7) hr (by omega) passE0 rfl (pa_cons (pv 9) (pa_cons (pe_tup (pa_cons pe_str (pa_cons (pe_ix ix_seq (pv 2) pe_int (fun _ _ => rfl)) pa_nil))) pa_nil)))))))) (pss_one (ps_ret pe_bl)) pss_nil)
      (pss_one (ps_if (PW.pt (pw_and (pt_cmpR op_uNotN (pv 8) pe_non (nomark _)) (pw_and1 (pt_not (pt_val (pe_cd (ok_law_is_refused T) hr (by omega) passE0 rfl (pa_cons (pv 9) (pa_cons (pe_ix ix_seq (pv 8) pe_int (fun _ _ => rfl)) (pa_cons (pe_ix ix_seq (pv 8) pe_int (fun _ _ => rfl)) pa_nil))))))))) (pss_one (ps_ret pe_bl)) pss_nil)))))))))
      (pss_cons (ps_for (passes_of rfl) rfl (pi_u (pe_ix ix_seq (pv 3) pe_int (fun _ _ => rfl))) (pg_n 6 S.nd) (pss_cons (ps_s 9 S.nd (pe_cd (ok_law_heard_labelled T) hr (by omega) passE0 rfl (pa_cons (pv 1) (pa_cons (pv 6) pa_nil))))
      (pss_one (ps_if (PW.pt (pw_or (pt_val (pe_callB (call_isiU (isF T)) (by rfl) (T.free 10) bb_isinstance (pa_cons (pv 6) (pa_cons (C8.pe_gc rfl ⟨_, (T.glo 17), rfl⟩) pa_nil)))) (pw_or1 (PW.pt (pw_and (pt_val (pe_callB (call_isiU (isF T)) (by rfl) (T.free 10) bb_isinstance (pa_cons (pv 6) (pa_cons (pe_bltn (v := .ty "str") rfl (T.free 11) bt_str rfl) pa_nil)))) (pw_and1 (pt_cmpR (op_vIn (units65 hr)) (pv 6) (pe_cd0 (ok_law_lo_labels T) hr (by omega) passE0 rfl) (by rfl)))))))) (pss_one (ps_if (pt_not (pt_val (pe_cd (ok_law_yq_same T 7) hr (by omega) passE0 rfl (pa_cons (pv 9) (pa_cons (pe_tup (pa_cons pe_str (pa_cons (pe_ix ix_seq (pv 2) pe_int (fun _ _ => rfl)) pa_nil))) pa_nil))))) (pss_one (ps_ret pe_bl)) pss_nil)) (pss_one (ps_if (pt_not (pt_val (pe_cd (ok_law_is_refused T) hr (by omega) passE0 rfl (pa_cons (pv 9) (pa_cons pe_str (pa_cons (pv 6) pa_nil)))))) (pss_one (ps_ret pe_bl)) pss_nil))))))
      (pss_one (ps_ret pe_bl))))
theorem sc_law_heard_function : FnScope ["row", "name", "many", "result", "label", "writes", "cost"] ["row"] (defScope st_law_heard_function) := ⟨rfl, rfl, rfl, by decide +kernel, rfl, by decide +kernel, by decide +kernel⟩
theorem ok_law_heard_function (T : Hd w K mg base) : Cd P w K mg base 10 "_law_heard_function" (sp_law_heard_function K) [] := by
  obtain ⟨fd, F⟩ := T.def_ 44 (d := d_law_heard_function)
  have S := sc_law_heard_function
  have hB : Binds K fd ["row"] [] := F.bindsN fun _ _ _ _ _ _ us hl => match us, hl with | [_], _ => rfl
  have kp := F.kp
  obtain ⟨oc, od, dV, kV, doc, pm, an, cdv, ct, osl, rfl, lk, hcd, _, _⟩ := F.ex
  obtain ⟨c0, rfl⟩ := He.codeIn_ref hcd
  have hc0 : c0 = (He.cT K ("_law_heard_function", none)).1 := (He.codeOf_eq lk rfl).symm
  refine ⟨_, _, ["row"], [], fn_of lk hcd S (fun vs H Q E h => (w_law_heard_function (kf T) E).len h) (fun A outer s H vs Q E hr h => ⟨t_law_heard_function K E, ?_, (w_law_heard_function (kf T) E).body h⟩), T.glo 71, kp, hB, .nil⟩
  exact (pss_cons (ps_asg (pv 0) (pg_lst rfl (pgs_cons (pg_n 1 S.nd) (pgs_cons (pg_n 2 S.nd) (pgs_cons (pg_n 3 S.nd) (pgs_cons (pg_n 4 S.nd) (pgs_cons (pg_n 5 S.nd) (pgs_cons (pg_n 6 S.nd) pgs_nil))))))))
      (pss_one (ps_ret (lamc_law_heard T (nm := "_law_heard_function") (M := []) (by decide) rfl (congrArg Value.ref hc0) hr (lamT_by (by kernel_rfl)) (fun A outer s H E f c' hr => (pe_oFld (fld_name T) (pe_ckN (okN_Function___init T) hr (by omega) (passes_call (takes_of rfl rfl rfl rfl) fun _ _ _ _ h => h) rfl (pa_cons (pv 1) (pa_cons (pv 2) (pa_cons (pv 3) pa_nil))) (pk_cons (pv 4) (pk_cons (pv 5) (pk_cons (pv 6) pk_nil)))) rfl))))))
theorem sc_law_row_right : FnScope ["row", "owed", "said"] ["row"] (defScope st_law_row_right) := ⟨rfl, rfl, rfl, by decide +kernel, rfl, by decide +kernel, by decide +kernel⟩
theorem ok_law_row_right (T : Hd w K mg base) : Cd P w K mg base 29 "_law_row_right" (sp_law_row_right K) [] := by
  obtain ⟨fd, F⟩ := T.def_ 45 (d := d_law_row_right)
  have S := sc_law_row_right
  refine ⟨_, fd, ["row"], [], F.ok S (fun vs H Q E h => (w_law_row_right (kf T) E).len h) (fun cdv A outer s H vs Q E hr h => ⟨t_law_row_right K E, ?_, (w_law_row_right (kf T) E).body h⟩), T.glo 72, F.kp, F.bindsN fun _ _ _ _ _ _ us hl => match us, hl with | [_], _ => rfl, .nil⟩
  exact (pss_cons (ps_s 1 S.nd (pe_cd (ok_law_owed T) hr (by omega) passE0 rfl (pa_cons (pe_ix ix_seq (pv 0) pe_int (fun _ _ => rfl)) (pa_cons (pe_ix ix_seq (pv 0) pe_int (fun _ _ => rfl)) (pa_cons (pe_ix ix_seq (pv 0) pe_int (fun _ _ => rfl)) (pa_cons (pe_ix ix_seq (pv 0) pe_int (fun _ _ => rfl)) (pa_cons (pe_ix ix_seq (pv 0) pe_int (fun _ _ => rfl)) (pa_cons (pe_ix ix_seq (pv 0) pe_int (fun _ _ => rfl)) pa_nil))))))))
      (pss_cons (ps_s 2 S.nd (pe_cd (ok_law_heard_function T) hr (by omega) passE0 rfl (pa_cons (pv 0) pa_nil)))
      (pss_cons (ps_if (pt_cmpR op_uIsN (pv 1) pe_non (nomark _)) (pss_one (ps_ret (pe_cd (ok_law_yq_same T 7) hr (by omega) passE0 rfl (pa_cons (pv 2) (pa_cons (pe_tup (pa_cons pe_str (pa_cons (pe_ix ix_seq (pv 0) pe_int (fun _ _ => rfl)) pa_nil))) pa_nil))))) pss_nil)
      (pss_one (ps_ret (pe_cd (ok_law_is_refused T) hr (by omega) passE0 rfl (pa_cons (pv 2) (pa_cons (pe_ix ix_seq (pv 1) pe_int (fun _ _ => rfl)) (pa_cons (pe_ix ix_seq (pv 1) pe_int (fun _ _ => rfl)) pa_nil)))))))))
theorem sc_law_function_right : FnScope ["jar", "many", "good", "odds", "i", "odd", "row", "k", "other", "said", "term", "word", "made"] ["jar"] (defScope st_law_function_right) := ⟨rfl, rfl, rfl, by decide +kernel, rfl, by decide +kernel, by decide +kernel⟩
theorem ok_law_function_right (T : Hd w K mg base) : Cd P w K mg base 30 "_law_function_right" (sp_law_function_right K) [] := by
  obtain ⟨fd, F⟩ := T.def_ 46 (d := d_law_function_right)
  have S := sc_law_function_right
  have hB : Binds K fd ["jar"] [] := F.bindsN fun _ _ _ _ _ _ us hl => match us, hl with | [_], _ => rfl
  have kp := F.kp
  obtain ⟨oc, od, dV, kV, doc, pm, an, cdv, ct, osl, rfl, lk, hcd, _, _⟩ := F.ex
  obtain ⟨c0, rfl⟩ := He.codeIn_ref hcd
  have hc0 : c0 = (He.cT K ("_law_function_right", none)).1 := (He.codeOf_eq lk rfl).symm
  refine ⟨_, _, ["jar"], [], fn_of lk hcd S (fun vs H Q E h => (w_law_function_right (kf T)).len h) (fun A outer s H vs Q E hr h => ⟨t_law_function_right K eN, ?_, (w_law_function_right (kf T)).body h⟩), T.glo 73, kp, hB, .nil⟩
  exact (pss_cons (ps_s 1 S.nd (pe_cd (ok_law_take T) hr (by omega) passE0 rfl (pa_cons (pv 0) (pa_cons pe_int pa_nil))))
      (pss_cons (ps_s 2 S.nd (pe_lst (pa_cons pe_str (pa_cons (pv 1) (pa_cons (pe_tup (pa_cons pe_str (pa_cons pe_int (pa_cons (pe_tup (pa_cons pe_str (pa_cons pe_str pa_nil))) pa_nil)))) (pa_cons pe_str (pa_cons (pe_lst (pa_cons (pe_tup (pa_cons pe_str (pa_cons pe_int pa_nil))) (pa_cons (pe_tup (pa_cons pe_str (pa_cons (pe_tup (pa_cons pe_str pa_nil)) pa_nil))) pa_nil))) (pa_cons pe_int pa_nil))))))))
      (pss_cons (ps_s 3 S.nd (pe_cd (ok_law_odds T) hr (by omega) passE0 rfl (pa_cons (pv 0) (pa_cons (pv 1) pa_nil))))
      (pss_cons (ps_for (passes_of rfl) rfl (pi_range1 (by rfl) (T.free 0) (pa_cons pe_int pa_nil)) (pg_n 4 S.nd) (pss_one (ps_for (passes_of rfl) rfl (pi_u (pe_ix ix_seq (pv 3) (pv 4) (fun _ _ => rfl))) (pg_n 5 S.nd) (pss_cons (ps_s 6 S.nd (pe_op op_uAdd (pe_op op_uAdd (pe_slice sl_u (pv 2) po_none (po_some (pv 4))) (pe_lst (pa_cons (pv 5) pa_nil))) (pe_slice sl_u (pv 2) (po_some (pe_op op_uAdd (pv 4) pe_int)) po_none)))
      (pss_cons (ps_s 7 S.nd (pe_cd (ok_law_take T) hr (by omega) passE0 rfl (pa_cons (pv 0) (pa_cons pe_int pa_nil))))
      (pss_cons (ps_s 8 S.nd (pe_ifExp (pt_cmpR (op_uNe hr.units) (pv 7) (pv 4) (nomark _)) (pe_op op_uAdd (pe_op op_uAdd (pe_slice sl_u (pv 6) po_none (po_some (pv 7))) (pe_lst (pa_cons (pe_cd (ok_law_one T) hr (by omega) passE0 rfl (pa_cons (pv 0) (pa_cons (pe_ix ix_seq (pv 3) (pv 7) (fun _ _ => rfl)) pa_nil))) pa_nil))) (pe_slice sl_u (pv 6) (po_some (pe_op op_uAdd (pv 7) pe_int)) po_none)) (pv 6)))
      (pss_one (ps_if (PW.pt (pw_or (pt_not (pt_val (pe_cd (ok_law_row_right T) hr (by omega) passE0 rfl (pa_cons (pv 6) pa_nil)))) (pw_or1 (pt_not (pt_val (pe_cd (ok_law_row_right T) hr (by omega) passE0 rfl (pa_cons (pv 8) pa_nil))))))) (pss_one (ps_ret pe_bl)) pss_nil))))))))
      (pss_cons (ps_setLc (i := 9) (own := [("term", 10)]) rfl S.nd rfl rfl (sw_true rfl rfl rfl (by decide +kernel)) (pi_u (pe_ix ix_seq (pv 3) pe_int (fun _ _ => rfl))) (blkOk_by (own := [("term", 10)]) (by kernel_rfl)) (fun _ _ _ _ _ => (pg_n 10 S.nd)) (fun _ _ _ _ _ => pts_nil) (fun _ _ _ _ _ => (pe_cd (ok_law_heard_term T) hr (by omega) passE0 rfl (pa_cons (pv 10) (pa_cons (pv 1) pa_nil)))))
      (pss_cons (ps_if (pt_not (pt_val (pe_cd (ok_law_yq_same T 7) hr (by omega) passE0 rfl (pa_cons (pv 9) (pa_cons (pe_lc (own := [("term", 10)]) rfl S.nd (pi_u (pe_ix ix_seq (pv 3) pe_int (fun _ _ => rfl))) (blkOk_by (own := [("term", 10)]) (by kernel_rfl)) (fun _ _ _ _ _ => (pg_n 10 S.nd)) (fun _ _ _ _ _ => pts_nil) (fun _ _ _ _ _ => (pe_tup (pa_cons pe_str (pa_cons (pe_cd (ok_law_lo_is_term T) hr (by omega) passE0 rfl (pa_cons (pv 10) (pa_cons (pv 1) pa_nil))) pa_nil))))) pa_nil))))) (pss_one (ps_ret pe_bl)) pss_nil)
      (pss_cons (ps_asg (lamc_law_heard T (nm := "_law_function_right") (M := []) (by decide) rfl (congrArg Value.ref hc0) hr (lamT_by (by kernel_rfl)) (fun A outer s H E f c' hr => (pe_ckN (okN_Function___init T) hr (by omega) passE0 rfl (pa_cons (pe_ix ix_seq (pv 2) pe_int (fun _ _ => rfl)) (pa_cons (pe_ix ix_seq (pv 2) pe_int (fun _ _ => rfl)) (pa_cons (pe_ix ix_seq (pv 2) pe_int (fun _ _ => rfl)) pa_nil))) (pk_cons (pe_ix ix_seq (pv 2) pe_int (fun _ _ => rfl)) (pk_cons (pe_ix ix_seq (pv 2) pe_int (fun _ _ => rfl)) (pk_cons (pe_ix ix_seq (pv 2) pe_int (fun _ _ => rfl)) pk_nil)))))) (pg_tup rfl (pgs_cons (pg_n 11 S.nd) (pgs_cons (pg_n 12 S.nd) pgs_nil))))
      (pss_one (ps_ret (pe_and (pe_cmpR (op_uEq hr.units) (pv 11) pe_str (nomark _)) (pe_one (pe_cd (ok_law_changes_right T) hr (by omega) passE0 rfl (pa_cons (pv 0) (pa_cons (pv 12) (pa_cons (pv 2) (pa_cons (pv 3) pa_nil))))))))))))))))
theorem sc_law : FnScope ["script", "jar", "go"] ["script"] (defScope st_law) := ⟨rfl, rfl, rfl, by decide +kernel, rfl, by decide +kernel, by decide +kernel⟩
theorem okf_law (T : Hd w K mg base) {fd : FuncData} (F : FunD K d_law.name d_law.qual d_law.params d_law.body d_law.scope (d_law.dvs K) (d_law.kws K) (He.fAd K d_law.at_) fd) : FnOk P w K mg base (L2.CX P w) 31 (He.fAd K d_law.at_) fd ["script"] (sp_law K) := by
  have S := sc_law
  refine F.ok S (fun vs H Q E h => (w_law (kf T) E).len h) (fun cdv A outer s H vs Q E hr h => ⟨t_law K E, ?_, (w_law (kf T) E).body h⟩)
  exact (pss_cons (ps_s 1 S.nd (pe_cd (ok_law_pool T) hr (by omega) passE0 rfl (pa_cons (pv 0) pa_nil)))
      (pss_one (ps_ret (pe_cmpR (op_uEq hr.units) (pe_lc (own := [("go", 2)]) rfl S.nd (pi_range1 (by rfl) (T.free 0) (pa_cons pe_int pa_nil)) (blkOk_by (own := [("go", 2)]) (by kernel_rfl)) (fun _ _ _ _ _ => (pg_n 2 S.nd)) (fun _ _ _ _ _ => (pts_one (pt_not (pt_val (pe_cd (ok_law_function_right T) hr (by omega) passE0 rfl (pa_cons (pv 1) pa_nil)))))) (fun _ _ _ _ _ => pe_int)) (pe_lst pa_nil) (nomark _)))))
end
end Lp.Q

set_option Elab.async false
set_option linter.all false
set_option maxRecDepth 100000
set_option maxHeartbeats 0
/-! k68H: the head and the end. -/
namespace Lp.Q
open PySem PySem.Spec PyProof.Rows L2 LamX Lp
abbrev Rr : PySem.W.OpenRow := PySem.W.OpenLaw.row PySem.Challenge.rw_looseties_k04_functions_refused_in_order
abbrev hk : PySem.W.Hook := hookY 4 fa fn tf exB
def ob (s : PySem.W.SharedT) : He.AlX := obsY 4 fa fn tf exB (HandSHeadRun.getT s)
theorem ob_eq (s : PySem.W.SharedT) : ob s = hk.obs s.abs := hookY_obs (HandSHeadRun.getT_eq s)
def loose : List Str := (["_wall", "StoreError", "BadLabel", "BadPart", "BadTerm", "LABELS", "is_label_name", "Label", "made_label", "LETTERS", "MOST_LETTERS", "MOST_VALUE", "is_integer", "is_between", "is_value", "is_name", "has_kind", "MOST_PARTS", "MOST_DEPTH", "MOST_ARGUMENTS", "PAIRS", "inner_terms", "has_form", "is_term", "MOST_WRITES", "MOST_COST", "PARTS", "are_writes", "Function"] : List Str) ++
  (["_law_pool", "_law_take", "_law_one", "_law_yq_is_whole", "_law_yq_same", "_law_lo_is_whole", "_law_lo_is_name", "_law_lo_arms", "_law_lo_size", "_law_lo_depth", "_law_lo_is_formed", "_law_lo_is_term", "_law_lo_labels", "_law_heard", "_law_is_refused", "_law_deep", "_law_wide", "_law_terms", "_law_is_writes", "_law_owed", "_law_heard_function", "_law_row_right", "_law_odds", "_law_function_right", "_law_heard_term", "_law_changes_right", "_law_heard_changed", "_law_heard_labelled"] : List Str)
theorem run (w : World) : HandSHeadRun.RunEq Rr (PySem.W.view Rr.prog [63]) hk ob 4000 loose w := by
  intro os
  kernel_rfl
theorem law_at {P : Program} {w : World} {h : Heap} {mg : Str → Option Value} {fa' : Addr} (hP : P = PySem.Challenge.pw_looseties_k04_functions_refused_in_order) (Y : hk.says w h) (G : h.Ns mainGlobals mg) (hfa : mg ("law" : Str) = some (.ref fa')) :
    ∃ K : Fg, K.In h ∧ ∃ (fd : FuncData) (cs : List (Addr × Addr)) (sp : Sp), (∀ p ∈ cs, h.get? p.2 = some { cls := .none, data := .fields #[] }) ∧ (∀ p ∈ cs, K.lookup p.2 = none) ∧ (∀ p ∈ cs, PySem.W.CodeHd h p.1 p.2) ∧ (∀ (s : Shared) (u : Value), BindsTo s fd ⟨[u], []⟩ [("script", u)]) ∧
    (∀ (H : Hp) (a : Addr) (ns : List Int), ns.length ≤ 63 → (∀ z ∈ ns, Builtin.Int.intBits z ≤ 1048576) → (∀ p ∈ cs, H p.2 = some (.tbl #[])) → SqL K H a (ns.map V.int) → sp [.ref a] H (fun v _ => v = .bl true) fun _ _ _ => False) ∧
    ∀ base : Heap, K.In base → base.Ns mainGlobals mg → (∀ p ∈ cs, TabB base mg p.1 p.2) → FnOk P w K mg base (L2.CX P w) 31 fa' fd ["script"] sp := by
  obtain ⟨K, KX, c⟩ := Y
  obtain ⟨fd, F⟩ := c.t.d.def_ 47 (d := d_law) rfl
  have T : ∀ base : Heap, (∀ p ∈ tf.map (He.cT K), TabB base mg p.1 p.2) → Hd w K mg base := fun base tb => ⟨⟨h, KX, G, c⟩, fun p hp => tb _ (List.mem_map.mpr ⟨p, hp, rfl⟩)⟩
  refine ⟨K, KX, fd, tf.map (He.cT K), sp_law K, fun p hp => ?_, fun p hp => ?_, fun p hp => ?_, fun s u => ?_, fun H a ns hl hbits htab hs => ?_, fun base hK hG tb => ?_⟩
  · obtain ⟨q, hq, rfl⟩ := List.mem_map.mp hp
    exact c.empty q hq
  · obtain ⟨q, hq, rfl⟩ := List.mem_map.mp hp
    exact c.out q hq
  · obtain ⟨q, hq, rfl⟩ := List.mem_map.mp hp
    exact PySem.W.codeHd_of_K KX (c.hd q hq)
  · exact FunD.bindsA (ps := ["script"]) F (fun _ _ _ _ _ _ us hl => match us, hl with | [_], _ => rfl) s [u] rfl
  · refine ⟨fun _ => False, [.lst (ns.map .int)], fun r => r = .val (.bl true), noX, ?_, fun _ z => z.elim, ?_, ⟨ns, rfl, Nat.le_trans hl (by decide), hbits, rfl⟩, fun v r H2 hr n rv => ?_, .none⟩
    · have e : ∀ ns : List Int, RepL K (fun _ => False) H (ns.map V.int) (ns.map Dt.int) := fun ns => RepL.ofInts
      exact .cons (.lst (hs.elim (fun h => .inl ⟨id, h⟩) .inr) (e ns)) .nil
    · intro p hp
      obtain ⟨q, hq, rfl⟩ := List.mem_map.mp hp
      refine ⟨#[], htab _ (List.mem_map.mpr ⟨q, hq, rfl⟩), ?_, fun pos cv hc => ?_⟩
      · trivial
      · cases hc
    · subst hr
      cases (show Rep K _ H2 v (.bl true) from rv)
      rfl
  · have TB := T base tb
    have e : mg ("law" : Str) = some (.ref (He.ga K "law")) := TB.glo 74
    have e2 : fa' = He.ga K "law" := by
      rw [hfa] at e
      injection e with e
      injection e
    subst e2
    exact okf_law TB F
end Lp.Q
open PySem PySem.W PySem.Calls PyProof.Rows
theorem PySem.Challenge.cw_looseties_k04_functions_refused_in_order_holds : PySem.Challenge.rw_looseties_k04_functions_refused_in_order.Holds := by
  w_on; o_law
  refine HandSHeadRun.head_any (r := OpenLaw.row PySem.Challenge.rw_looseties_k04_functions_refused_in_order) (q := view (OpenLaw.row PySem.Challenge.rw_looseties_k04_functions_refused_in_order).prog [63]) (H := Lp.Q.hk) (ob := Lp.Q.ob) (M := 4000) (loose := Lp.Q.loose) (d := HandSHeadRun.topDef (OpenLaw.row PySem.Challenge.rw_looseties_k04_functions_refused_in_order).prog 63) (kwd := []) Lp.Q.ob_eq
    (by kernel_rfl) (fun s => by kernel_rfl) Lp.Q.run (by kernel_rfl) (by kernel_rfl) (by kernel_rfl) (by rfl) (by first | assumption | decide +kernel) (by decide +kernel) ⟨rfl, rfl, rfl, rfl, rfl, by decide +kernel⟩ ?hw ?hc
  case hw => w_witness2
  case hc =>
    refine LamX.walk_ofTsE (l := PySem.Challenge.rw_looseties_k04_functions_refused_in_order) (n := 63) (k := 31) (x := "script") (CX := fun w => L2.CX (PySem.Challenge.rw_looseties_k04_functions_refused_in_order).prog w) rfl (by decide) (by kernel_rfl) ⟨rfl, by decide, by decide⟩ ?F ?hCX
    case F =>
      intro w mg fa h Y G hmg0
      have hmg : mg ("law" : PySem.Str) = some (.ref fa) := by
        have e : (HandSHeadRun.topDef (OpenLaw.row PySem.Challenge.rw_looseties_k04_functions_refused_in_order).prog 63).name = ("law" : PySem.Str) := by kernel_rfl
        rw [← e]
        exact hmg0
      obtain ⟨K, KX, q⟩ := Lp.Q.law_at (P := (PySem.Challenge.rw_looseties_k04_functions_refused_in_order).prog) rfl Y G hmg
      exact ⟨K, KX, q⟩
    case hCX =>
      intro w H s e s' h
      obtain ⟨_, _, _, _, _, _, _, _, _, _, _, _, z⟩ := h
      exact z.elim
