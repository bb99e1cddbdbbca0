import PyProof.Rows.All
import Wide.All
import OpenK.AllK
import Wide.FinOn
import KE.KStateDown
import HandS.ForExc
import HandS.Property
import HandS.Defaults
import HandS.Head0
import HandS.Head1
import HandS.Head2
import HandS.Head3
import HandS.HeadEnd
import HandS.HeadHook1
import HandS.HeadHook2
import HandS.ForMost
import HandS.Wide
import HandS.Gcd
import HandS.TupAny
import HandS.Deep
import HandS.Style
import HandS.Ends
import HandS.OwnEq
import HandS.Iter
import HandS.More
import HandS.Replace
import HandS.MapJoin
import HandS.Conv
import HandS.IsInst
import PyProof.ReprRoads
import PyProof.Rows.SortShellAny
import PyProof.ListStr
import PyProof.CollectStr
import HandS.Codes
import HandS.Comp
import KE.KSortTupG
import HandS.TupSets
import HandS.DictComp
import HandS.Dict
import KE.DatumOrd
import HandS.SortKw
import PySem.Challenge.RW_wholeworths_k68_whole_delays
set_option Elab.async false
set_option linter.all false
set_option maxRecDepth 100000
set_option maxHeartbeats 2000000
namespace PM
open PySem PySem.Spec PyProof.Rows L2 He

/-- a property's getter -/
def propG (K : PySem.W.Frag) (x f : Str) : Addr := match PySem.W.recIn K (ma K (ga K x) f) "property" with
  | some (.ref g :: _) => g
  | _ => 0
def propB (K : PySem.W.Frag) (x f : Str) : Bool := eqO (PySem.W.findIn K (.ref (ga K x)) f) (some (some (.ref (ma K (ga K x) f)))) &&
  (eqO (PySem.W.specialIn K (.ref (ma K (ga K x) f)) "__get__") (some (some (.builtin "property.__get__"))) &&
  (decide (PySem.W.takesIn K (.ref (ma K (ga K x) f)) = some true) && (match PySem.W.recIn K (ma K (ga K x) f) "property" with
  | some (.ref _ :: _) => true
  | _ => false)))
theorem propB_ok {K : PySem.W.Frag} {x f : Str} (h : propB K x f = true) : PropOf K (ga K x) f (ma K (ga K x) f) (propG K x f) := by
  unfold propB at h
  obtain ⟨h1, h⟩ := ba h
  obtain ⟨h2, h⟩ := ba h
  obtain ⟨h3, h4⟩ := ba h
  refine ⟨eqO_ok h1, eqO_ok h2, of_decide_eq_true h3, ?_⟩
  unfold propG
  split at h4
  · rename_i g rest e
    exact ⟨rest, by rw [e]⟩
  · cases h4

/-- where a def stands: a global, a class's method, a property's getter -/
inductive At where
  | glo (x : Str) | met (x m : Str) | prp (x m : Str)
def At.ad (K : PySem.W.Frag) : At → Addr
  | .glo x => ga K x
  | .met x m => ma K (ga K x) m
  | .prp x m => propG K x m
structure DD where
  at_ : At
  name : Str
  qual : Str
  params : Arguments
  body : List Stmt
  scope : Scope
def fnWa (K : PySem.W.Frag) (a : Addr) : FnW := match K.lookup a with
  | some ⟨_, _, .func fd, _⟩ => some (fd.name, fd.qualname, fd.params, fd.body, fd.scope, fd.globals, fd.closure, fd.builtins)
  | _ => none
def DD.val (d : DD) : FnW := some (d.name, d.qual, d.params, .stmts d.body, d.scope, mainGlobals, [], builtinsNs)
def DD.ok (K : PySem.W.Frag) (d : DD) : Bool := PySem.W.keepIn K (.ref (d.at_.ad K)) && (match K.lookup (d.at_.ad K) with
  | some ⟨_, _, .func fd, _⟩ => PySem.W.codeIn K fd.code d.qual && (dflB K fd.defaults [] && kwdB K fd.kwdefaults [])
  | _ => false)
theorem DD.funD {K : PySem.W.Frag} {d : DD} (e : fnWa K (d.at_.ad K) = d.val) (c : d.ok K = true) : ∃ fd, FunD K d.name d.qual d.params d.body d.scope [] [] (d.at_.ad K) fd := by
  obtain ⟨kp, c2⟩ := ba c
  unfold fnWa at e
  cases q : K.lookup (d.at_.ad K) with
  | none =>
    rw [q] at c2
    cases c2
  | some o =>
    obtain ⟨oc, od, dt, osl⟩ := o
    rw [q] at c2 e
    cases dt with
    | func fd =>
      obtain ⟨n1, n2, n3, n4, n5, n6, n7, n8, n9, n10, n11, n12, n13, n14, n15⟩ := fd
      have e2 : (some (n1, n2, n3, n4, n5, n6, n7, n15) : FnW) = some (d.name, d.qual, d.params, .stmts d.body, d.scope, mainGlobals, [], builtinsNs) := e
      simp only [Option.some.injEq, Prod.mk.injEq] at e2
      obtain ⟨h1, h2, h3, h4, h5, h6, h7, h8⟩ := e2
      subst h1 h2 h3 h4 h5 h6 h7 h8
      have c3 : (PySem.W.codeIn K n13 d.qual && (dflB K n8 [] && kwdB K n9 [])) = true := c2
      obtain ⟨k1, k2⟩ := ba c3
      obtain ⟨k3, k4⟩ := ba k2
      exact ⟨_, ⟨oc, od, n8, n9, n10, n11, n12, n13, n14, osl, rfl, q, k1, dflB_ok k3, kwdB_ok k4⟩, kp⟩
    | _ => cases c2
abbrev AlP : Type := Bool × List FnW
def obsP (ex : PySem.W.Frag → Bool) (fn : List DD) (K : PySem.W.Frag) : AlP := (ex K && fn.all fun d => d.ok K, fn.map fun d => fnWa K (d.at_.ad K))
def valP (fn : List DD) : AlP := (true, fn.map DD.val)
def SaysP (ex : PySem.W.Frag → Bool) (fn : List DD) (K : PySem.W.Frag) : Prop := obsP ex fn K = valP fn
def obsPG (n : Nat) (ex : PySem.W.Frag → Bool) (fn : List DD) (g : Addr → Option Obj) : AlP := obsP ex fn (frG g (asD g n))
def hookP (n : Nat) (ex : PySem.W.Frag → Bool) (fn : List DD) : PySem.W.Hook where
  α := AlP
  obs := fun s => obsPG n ex fn s.heap.get?
  val := fun _ => valP fn
  says := fun _ h => ∃ K : PySem.W.Frag, K.In h ∧ SaysP ex fn K
  of := fun _ _ e => ⟨_, frG_in, e⟩
  keeps := fun _ _ _ ⟨K, hK, c⟩ k => ⟨K, PySem.W.Frag.In.keeps hK k, c⟩
theorem obsPG_eq {n : Nat} {ex : PySem.W.Frag → Bool} {fn : List DD} {g : Addr → Option Obj} {s : Shared} (h : ∀ a, g a = s.heap.get? a) : obsPG n ex fn g = (hookP n ex fn).obs s := by
  have e : g = s.heap.get? := funext h
  rw [e] <;> rfl
section
variable {ex : PySem.W.Frag → Bool} {fn : List DD} {K : PySem.W.Frag}
theorem SaysP.xx (c : SaysP ex fn K) : ex K = true :=
  (ba (show (ex K && fn.all fun d => d.ok K) = true from congrArg (fun z : AlP => z.1) c)).1
theorem SaysP.def_ (c : SaysP ex fn K) (i : Nat) {d : DD} (h : fn[i]? = some d := by rfl) : ∃ fd, FunD K d.name d.qual d.params d.body d.scope [] [] (d.at_.ad K) fd := by
  have c2 := (ba (show (ex K && fn.all fun d => d.ok K) = true from congrArg (fun z : AlP => z.1) c)).2
  have e : fn.map (fun d => fnWa K (d.at_.ad K)) = fn.map DD.val := congrArg (fun z : AlP => z.2) c
  have e2 : (fn.map fun d => fnWa K (d.at_.ad K))[i]? = (fn.map DD.val)[i]? := by rw [e]
  rw [List.getElem?_map, List.getElem?_map, h] at e2
  exact DD.funD (Option.some.inj e2) (List.all_eq_true.mp c2 d (List.mem_of_getElem? h))
end
/-! the text by places -/
def topOf (p : Program) (i : Nat) : Stmt := p.main.body.getD i (.Pass ⟨0, 0, 0, 0⟩)
def ddG (p : Program) (x : Str) (i : Nat) : DD := ⟨.glo x, x, x, defArgs (topOf p i), defBody (topOf p i), defScope (topOf p i)⟩
def ddM (p : Program) (x m q : Str) (i j : Nat) : DD := ⟨.met x m, m, q, defArgs (inClass (topOf p i) j), defBody (inClass (topOf p i) j), defScope (inClass (topOf p i) j)⟩
def ddP (p : Program) (x m q : Str) (i j : Nat) : DD := ⟨.prp x m, m, q, defArgs (inClass (topOf p i) j), defBody (inClass (topOf p i) j), defScope (inClass (topOf p i) j)⟩
end PM
set_option Elab.async false
set_option linter.all false
set_option maxRecDepth 100000
set_option maxHeartbeats 2000000
set_option autoImplicit false
namespace PM
open PySem PySem.Spec PyProof.Rows L2
abbrev Txt := List Nat
def tx (s : Txt) : Str := ⟨s.toArray⟩
/-- a value that nobody changes any more; frz: the script -/
inductive D where
  | non | bl (b : Bool) | int (i : Int) | str (s : Txt)
  | tup (xs : List D) | lst (xs : List D) | frz (xs : List D)
  | ins (c : Str) (fs : List (Str × D))
  | dK (kvs : List (Key × D)) | dT (kvs : List (List Key × D))
/-- what a name holds: a value, or an own object that may be changed through this name alone -/
inductive T where
  | sh (d : D) | fl (ds : List D) | bx (ts : List T) | ob (c : Str) (fs : List (Str × T))
  | dk (kvs : List (Key × D)) | dt (kvs : List (List Key × D))
abbrev Sl := List (Option T)
section
variable (K : PySem.W.Frag) (F : Hp)
mutual
def rep : D → V → Prop
  | .non, v => v = .non
  | .bl b, v => v = .bl b
  | .int i, v => v = .int i
  | .str s, v => v = .str (tx s)
  | .tup xs, v => ∃ p vs, v = .ref p ∧ F p = some (.tup vs) ∧ reps xs vs
  | .lst xs, v => ∃ p vs, v = .ref p ∧ F p = some (.lst vs) ∧ reps xs vs
  | .frz xs, v => ∃ p vs, v = .ref p ∧ SqL K F p vs ∧ reps xs vs
  | .ins c fs, v => ∃ p dx gs, v = .ref p ∧ F p = some (.ins (He.ga K c) dx gs) ∧ repf fs gs
  | .dK kvs, v => ∃ p ws, v = .ref p ∧ F p = some (.dK ws) ∧ repk kvs ws
  | .dT kvs, v => ∃ p ws, v = .ref p ∧ F p = some (.dT ws) ∧ rept kvs ws
def reps : List D → List V → Prop
  | [], vs => vs = []
  | x :: xs, vs => ∃ w ws, vs = w :: ws ∧ rep x w ∧ reps xs ws
def repf : List (Str × D) → List (Str × V) → Prop
  | [], vs => vs = []
  | (f, x) :: xs, vs => ∃ w ws, vs = (f, w) :: ws ∧ rep x w ∧ repf xs ws
def repk : List (Key × D) → List (Key × V) → Prop
  | [], vs => vs = []
  | (f, x) :: xs, vs => ∃ w ws, vs = (f, w) :: ws ∧ rep x w ∧ repk xs ws
def rept : List (List Key × D) → List (List Key × V) → Prop
  | [], vs => vs = []
  | (f, x) :: xs, vs => ∃ w ws, vs = (f, w) :: ws ∧ rep x w ∧ rept xs ws
end
variable (H : Hp)
mutual
def own : T → V → (Addr → Prop) → Prop
  | .sh d, v, _ => rep K F d v
  | .fl ds, v, A => ∃ p vs, v = .ref p ∧ A p ∧ H p = some (.lst vs) ∧ reps K F ds vs
  | .bx ts, v, A => ∃ p vs, v = .ref p ∧ A p ∧ H p = some (.lst vs) ∧ owns ts vs (fun a => A a ∧ a ≠ p)
  | .ob c fs, v, A => ∃ p dx gs, v = .ref p ∧ A p ∧ H p = some (.ins (He.ga K c) dx gs) ∧ ownf fs gs (fun a => A a ∧ a ≠ p)
  | .dk kvs, v, A => ∃ p ws, v = .ref p ∧ A p ∧ H p = some (.dK ws) ∧ repk K F kvs ws
  | .dt kvs, v, A => ∃ p ws, v = .ref p ∧ A p ∧ H p = some (.dT ws) ∧ rept K F kvs ws
def owns : List T → List V → (Addr → Prop) → Prop
  | [], vs, _ => vs = []
  | t :: ts, vs, A => ∃ w ws B, vs = w :: ws ∧ own t w B ∧ (∀ a, B a → A a) ∧ owns ts ws (fun a => A a ∧ ¬ B a)
def ownf : List (Str × T) → List (Str × V) → (Addr → Prop) → Prop
  | [], vs, _ => vs = []
  | (f, t) :: ts, vs, A => ∃ w ws B, vs = (f, w) :: ws ∧ own t w B ∧ (∀ a, B a → A a) ∧ ownf ts ws (fun a => A a ∧ ¬ B a)
end
end
/-- the one heap stands in the other -/
def Sub (F F' : Hp) : Prop := ∀ a o, F a = some o → F' a = some o
theorem Sub.rfl' {F : Hp} : Sub F F := fun _ _ h => h
theorem Sub.tr {F F1 F2 : Hp} (a : Sub F F1) (b : Sub F1 F2) : Sub F F2 := fun x o h => b x o (a x o h)
theorem Sub.new {F : Hp} {p : Addr} {o : HO} (h : F p = none) : Sub F (upd F p o) := fun a u e => by
  rw [upd_ne (ne_of_none e h)]; exact e
theorem sql_sub {K : PySem.W.Frag} {F F' : Hp} {p : Addr} {vs : List V} (s : Sub F F') (h : SqL K F p vs) : SqL K F' p vs := by
  rcases h with (h | ⟨o, h⟩) | h
  · exact .inl (.inl (s _ _ h))
  · exact .inl (.inr ⟨o, s _ _ h⟩)
  · exact .inr h
section
variable {K : PySem.W.Frag} {F F' : Hp}
mutual
theorem rep_sub (s : Sub F F') : ∀ (d : D) (v : V), rep K F d v → rep K F' d v
  | .non, v, h => h
  | .bl b, v, h => h
  | .int i, v, h => h
  | .str z, v, h => h
  | .tup xs, v, h => by
    obtain ⟨p, vs, e, a, r⟩ := h
    exact ⟨p, vs, e, s _ _ a, reps_sub s xs vs r⟩
  | .lst xs, v, h => by
    obtain ⟨p, vs, e, a, r⟩ := h
    exact ⟨p, vs, e, s _ _ a, reps_sub s xs vs r⟩
  | .frz xs, v, h => by
    obtain ⟨p, vs, e, a, r⟩ := h
    exact ⟨p, vs, e, sql_sub s a, reps_sub s xs vs r⟩
  | .ins c fs, v, h => by
    obtain ⟨p, dx, gs, e, a, r⟩ := h
    exact ⟨p, dx, gs, e, s _ _ a, repf_sub s fs gs r⟩
  | .dK kvs, v, h => by
    obtain ⟨p, ws, e, a, r⟩ := h
    exact ⟨p, ws, e, s _ _ a, repk_sub s kvs ws r⟩
  | .dT kvs, v, h => by
    obtain ⟨p, ws, e, a, r⟩ := h
    exact ⟨p, ws, e, s _ _ a, rept_sub s kvs ws r⟩
theorem reps_sub (s : Sub F F') : ∀ (xs : List D) (vs : List V), reps K F xs vs → reps K F' xs vs
  | [], vs, h => h
  | x :: xs, vs, h => by
    obtain ⟨w, ws, e, a, r⟩ := h
    exact ⟨w, ws, e, rep_sub s x w a, reps_sub s xs ws r⟩
theorem repf_sub (s : Sub F F') : ∀ (xs : List (Str × D)) (vs : List (Str × V)), repf K F xs vs → repf K F' xs vs
  | [], vs, h => h
  | (f, x) :: xs, vs, h => by
    obtain ⟨w, ws, e, a, r⟩ := h
    exact ⟨w, ws, e, rep_sub s x w a, repf_sub s xs ws r⟩
theorem repk_sub (s : Sub F F') : ∀ (xs : List (Key × D)) (vs : List (Key × V)), repk K F xs vs → repk K F' xs vs
  | [], vs, h => h
  | (f, x) :: xs, vs, h => by
    obtain ⟨w, ws, e, a, r⟩ := h
    exact ⟨w, ws, e, rep_sub s x w a, repk_sub s xs ws r⟩
theorem rept_sub (s : Sub F F') : ∀ (xs : List (List Key × D)) (vs : List (List Key × V)), rept K F xs vs → rept K F' xs vs
  | [], vs, h => h
  | (f, x) :: xs, vs, h => by
    obtain ⟨w, ws, e, a, r⟩ := h
    exact ⟨w, ws, e, rep_sub s x w a, rept_sub s xs ws r⟩
end
variable {H H' : Hp}
mutual
theorem own_sub (s : Sub F F') : ∀ (t : T) (v : V) (A A' : Addr → Prop), (∀ a, A a → A' a) → (∀ a o, A a → H a = some o → H' a = some o) → own K F H t v A → own K F' H' t v A'
  | .sh d, v, A, A', _, k, h => rep_sub s d v h
  | .fl ds, v, A, A', m, k, h => by
    obtain ⟨p, vs, e, i, a, r⟩ := h
    exact ⟨p, vs, e, m _ i, k _ _ i a, reps_sub s ds vs r⟩
  | .bx ts, v, A, A', m, k, h => by
    obtain ⟨p, vs, e, i, a, r⟩ := h
    exact ⟨p, vs, e, m _ i, k _ _ i a, owns_sub s ts vs _ _ (fun b hb => ⟨m _ hb.1, hb.2⟩) (fun b o hb => k b o hb.1) r⟩
  | .ob c fs, v, A, A', m, k, h => by
    obtain ⟨p, dx, gs, e, i, a, r⟩ := h
    exact ⟨p, dx, gs, e, m _ i, k _ _ i a, ownf_sub s fs gs _ _ (fun b hb => ⟨m _ hb.1, hb.2⟩) (fun b o hb => k b o hb.1) r⟩
  | .dk kvs, v, A, A', m, k, h => by
    obtain ⟨p, ws, e, i, a, r⟩ := h
    exact ⟨p, ws, e, m _ i, k _ _ i a, repk_sub s kvs ws r⟩
  | .dt kvs, v, A, A', m, k, h => by
    obtain ⟨p, ws, e, i, a, r⟩ := h
    exact ⟨p, ws, e, m _ i, k _ _ i a, rept_sub s kvs ws r⟩
theorem owns_sub (s : Sub F F') : ∀ (ts : List T) (vs : List V) (A A' : Addr → Prop), (∀ a, A a → A' a) → (∀ a o, A a → H a = some o → H' a = some o) → owns K F H ts vs A → owns K F' H' ts vs A'
  | [], vs, A, A', _, k, h => h
  | t :: ts, vs, A, A', m, k, h => by
    obtain ⟨w, ws, B, e, a, i, r⟩ := h
    exact ⟨w, ws, B, e, own_sub s t w B B (fun _ x => x) (fun b o hb => k b o (i b hb)) a, fun b hb => m _ (i b hb), owns_sub s ts ws _ _ (fun b hb => ⟨m _ hb.1, hb.2⟩) (fun b o hb => k b o hb.1) r⟩
theorem ownf_sub (s : Sub F F') : ∀ (ts : List (Str × T)) (vs : List (Str × V)) (A A' : Addr → Prop), (∀ a, A a → A' a) → (∀ a o, A a → H a = some o → H' a = some o) → ownf K F H ts vs A → ownf K F' H' ts vs A'
  | [], vs, A, A', _, k, h => h
  | (f, t) :: ts, vs, A, A', m, k, h => by
    obtain ⟨w, ws, B, e, a, i, r⟩ := h
    exact ⟨w, ws, B, e, own_sub s t w B B (fun _ x => x) (fun b o hb => k b o (i b hb)) a, fun b hb => m _ (i b hb), ownf_sub s ts ws _ _ (fun b hb => ⟨m _ hb.1, hb.2⟩) (fun b o hb => k b o hb.1) r⟩
end
end
/-! ### worlds -/
structure Wd where
  F : Hp
  H : Hp
  A : Nat → Addr → Prop
/-- behind W comes W' -/
structure Le (W W' : Wd) : Prop where
  ext : Sub W.F W'.F
  fr : ∀ a o, (∀ i, ¬ W.A i a) → W.H a = some o → W'.H a = some o
  ft : ∀ i a, W'.A i a → (∃ j, W.A j a) ∨ W.H a = none
  nw : ∀ a o, W'.F a = some o → W.F a = some o ∨ (∃ j, W.A j a) ∨ W.H a = none
/-- .. nothing was changed -/
structure Le0 (W W' : Wd) : Prop where
  ext : Sub W.F W'.F
  fr : Sub W.H W'.H
  ft : W'.A = W.A
  nw : ∀ a o, W'.F a = some o → W.F a = some o ∨ W.H a = none
theorem Le0.le {W W' : Wd} (h : Le0 W W') : Le W W' :=
  ⟨h.ext, fun a o _ => h.fr a o, fun i a q => .inl ⟨i, by rw [h.ft] at q; exact q⟩, fun a o q => (h.nw a o q).imp id .inr⟩
theorem Le0.refl (W : Wd) : Le0 W W := ⟨Sub.rfl', Sub.rfl', rfl, fun _ _ h => .inl h⟩
theorem Le.refl (W : Wd) : Le W W := (Le0.refl W).le
theorem Le0.tr {W W1 W2 : Wd} (a : Le0 W W1) (b : Le0 W1 W2) : Le0 W W2 :=
  ⟨a.ext.tr b.ext, a.fr.tr b.fr, b.ft.trans a.ft, fun x o h => by
    rcases b.nw x o h with h | h
    · exact a.nw x o h
    · cases q : W.H x with
      | none => exact .inr rfl
      | some u => rw [a.fr _ _ q] at h; cases h⟩
theorem Le.back {W W1 : Wd} (a : Le W W1) {x : Addr} (h : W1.H x = none) : (∃ j, W.A j x) ∨ W.H x = none := by
  by_cases q : ∃ j, W.A j x
  · exact .inl q
  · cases e : W.H x with
    | none => exact .inr rfl
    | some u =>
      rw [a.fr x u (fun i hi => q ⟨i, hi⟩) e] at h
      cases h
theorem Le.tr {W W1 W2 : Wd} (a : Le W W1) (b : Le W1 W2) : Le W W2 where
  ext := a.ext.tr b.ext
  fr := fun x o n h => b.fr x o (fun i hi => by
    rcases a.ft i x hi with ⟨j, hj⟩ | e
    · exact n j hj
    · rw [h] at e; cases e) (a.fr x o n h)
  ft := fun i x h => by
    rcases b.ft i x h with ⟨j, hj⟩ | e
    · exact a.ft j x hj
    · exact a.back e
  nw := fun x o h => by
    rcases b.nw x o h with h | ⟨j, hj⟩ | e
    · exact a.nw x o h
    · exact .inr (a.ft j x hj)
    · exact .inr (a.back e)
def Lw : Bool → Wd → Wd → Prop
  | true => Le0
  | false => Le
theorem Lw.le {b : Bool} {W W' : Wd} (h : Lw b W W') : Le W W' := by
  cases b with
  | true => exact Le0.le h
  | false => exact h
theorem Lw.refl (b : Bool) (W : Wd) : Lw b W W := by
  cases b with
  | true => exact Le0.refl W
  | false => exact Le.refl W
theorem Lw.tr {b : Bool} {W W1 W2 : Wd} (x : Lw b W W1) (y : Lw b W1 W2) : Lw b W W2 := by
  cases b with
  | true => exact Le0.tr x y
  | false => exact Le.tr x y
theorem Lw.of {b : Bool} {W W' : Wd} (h : Le0 W W') : Lw b W W' := by
  cases b with
  | true => exact h
  | false => exact h.le
/-! ### answers -/
inductive R (α : Type) where
  | stuck | ok (a : α) (s : Sl)
abbrev M (α : Type) := Sl → R α
def R.bind {α β : Type} : R α → (α → Sl → R β) → R β
  | .stuck, _ => .stuck
  | .ok a s, f => f a s
@[simp] theorem R.bind_stuck {α β : Type} (f : α → Sl → R β) : R.bind .stuck f = .stuck := rfl
@[simp] theorem R.bind_ok {α β : Type} (a : α) (s : Sl) (f : α → Sl → R β) : R.bind (.ok a s) f = f a s := rfl
def wp {α : Type} : R α → (α → Sl → Prop) → Prop
  | .stuck, _ => False
  | .ok a s, P => P a s
theorem wp_bind {α β : Type} {r : R α} {f : α → Sl → R β} {P : β → Sl → Prop} : wp (r.bind f) P ↔ wp r (fun a s => wp (f a s) P) := by
  cases r <;> exact Iff.rfl
theorem wp_mono {α : Type} {r : R α} {P P' : α → Sl → Prop} (h : wp r P) (k : ∀ a s, r = .ok a s → P a s → P' a s) : wp r P' := by
  cases r with
  | stuck => exact h
  | ok a s => exact k a s rfl h
theorem wp_ok {α : Type} {r : R α} {P : α → Sl → Prop} (h : wp r P) : ∃ a s, r = .ok a s ∧ P a s := by
  cases r with
  | stuck => exact h.elim
  | ok a s => exact ⟨a, s, rfl, h⟩
/-! ### the statics -/
structure Gb where
  P : Program
  w : World
  K : PySem.W.Frag
  mg : Str → Option Value
  base : Heap
structure Ct where
  N : List Str
  sc : Scope
  fn : Str → Bool
  k : Nat
  io : List Nat
def gb (X : Cx) : Gb := ⟨X.prog, X.w, X.K, X.mg, X.base⟩
structure OkX (G : Gb) (C : Ct) (X : Cx) : Prop where
  g : gb X = G
  eN : X.N = C.N
  nd : C.N.Nodup
  es : X.env.scope = C.sc
  calm : X.calm = true
  room : Room C.k X.A
  gd : X.A.guards = some []
  fn : X.fn = C.fn
  nx : X.xe = fun _ _ => False
/-- what is true between two steps -/
structure Rl (K : PySem.W.Frag) (io : List Nat) (ρ : List (Nat × V)) (W : Wd) (σ : L2.St) (Γ : Sl) : Prop where
  sub : Sub W.F W.H
  len : Γ.length = σ.length
  slot : ∀ i t, Γ[i]? = some (some t) → ∃ v, σ[i]? = some (some v) ∧ own K W.F W.H t v (W.A i)
  dis : ∀ i j a, i ≠ j → W.A i a → W.A j a → False
  nof : ∀ i a, W.A i a → W.F a = none
  alc : ∀ i a, W.A i a → ∃ o, W.H a = some o
  fix : ∀ p ∈ ρ, p.1 ∈ io ∧ σ[p.1]? = some (some p.2)
/-- nothing is changed, new objects may stand: F' has more -/
theorem Rl.more {K : PySem.W.Frag} {io : List Nat} {ρ : List (Nat × V)} {W W' : Wd} {σ : L2.St} {Γ : Sl} (h : Rl K io ρ W σ Γ) (l : Le0 W W') (s : Sub W'.F W'.H) : Rl K io ρ W' σ Γ where
  sub := s
  len := h.len
  slot := fun i t e => by
    obtain ⟨v, e1, o⟩ := h.slot i t e
    exact ⟨v, e1, own_sub l.ext t v _ _ (fun a q => by rw [l.ft]; exact q) (fun a o _ q => l.fr a o q) o⟩
  dis := fun i j a n x y => by rw [l.ft] at x y; exact h.dis i j a n x y
  nof := fun i a x => by
    rw [l.ft] at x
    cases e : W'.F a with
    | none => rfl
    | some o =>
      rcases l.nw a o e with q | q
      · rw [h.nof i a x] at q; cases q
      · obtain ⟨u, hu⟩ := h.alc i a x
        rw [hu] at q; cases q
  alc := fun i a x => by
    rw [l.ft] at x
    obtain ⟨u, hu⟩ := h.alc i a x
    exact ⟨u, l.fr _ _ hu⟩
  fix := h.fix
/-- a result that is one's own: its objects B are new, or were some name's -/
structure Fre (K : PySem.W.Frag) (b : Bool) (W W' : Wd) (t : T) (v : V) (B : Addr → Prop) : Prop where
  own : own K W'.F W'.H t v B
  dis : ∀ i a, W'.A i a → B a → False
  nof : ∀ a, B a → W'.F a = none
  alc : ∀ a, B a → ∃ o, W'.H a = some o
  ft : ∀ a, B a → (∃ j, W.A j a) ∨ W.H a = none
  nw : b = true → ∀ a, B a → W.H a = none
/-- what is seen of a value now -/
def vw (K : PySem.W.Frag) (F H : Hp) : D → V → Prop
  | .lst xs, v => ∃ p vs, v = .ref p ∧ H p = some (.lst vs) ∧ reps K F xs vs
  | .dK xs, v => ∃ p vs, v = .ref p ∧ H p = some (.dK vs) ∧ repk K F xs vs
  | .dT xs, v => ∃ p vs, v = .ref p ∧ H p = some (.dT vs) ∧ rept K F xs vs
  | d, v => rep K F d v
theorem vw_of {K : PySem.W.Frag} {F H : Hp} (s : Sub F H) {d : D} {v : V} (h : rep K F d v) : vw K F H d v := by
  cases d with
  | lst xs => obtain ⟨p, vs, e, a, r⟩ := h; exact ⟨p, vs, e, s _ _ a, r⟩
  | dK xs => obtain ⟨p, vs, e, a, r⟩ := h; exact ⟨p, vs, e, s _ _ a, r⟩
  | dT xs => obtain ⟨p, vs, e, a, r⟩ := h; exact ⟨p, vs, e, s _ _ a, r⟩
  | _ => exact h
theorem vw_sub {K : PySem.W.Frag} {F H F' H' : Hp} (s : Sub F F') (s' : Sub H H') {d : D} {v : V} (h : vw K F H d v) : vw K F' H' d v := by
  cases d with
  | lst xs => obtain ⟨p, vs, e, a, r⟩ := h; exact ⟨p, vs, e, s' _ _ a, reps_sub s _ _ r⟩
  | dK xs => obtain ⟨p, vs, e, a, r⟩ := h; exact ⟨p, vs, e, s' _ _ a, repk_sub s _ _ r⟩
  | dT xs => obtain ⟨p, vs, e, a, r⟩ := h; exact ⟨p, vs, e, s' _ _ a, rept_sub s _ _ r⟩
  | _ => exact rep_sub s _ _ h
/-! ### judgements -/
/-- e gives the value that m tells; b: nothing is changed by it -/
structure SE (G : Gb) (C : Ct) (b : Bool) (e : Expr) (m : M D) : Prop where
  pu : b = true → ∀ Γ d Γ', m Γ = .ok d Γ' → Γ' = Γ
  go : ∀ X, OkX G C X → ∃ t, PE X e t ∧ ∀ ρ W σ Γ Q, Rl G.K C.io ρ W σ Γ → wp (m Γ) (fun d Γ' => ∀ v W', Lw b W W' → Rl G.K C.io ρ W' σ Γ' → rep G.K W'.F d v → Q v W'.H) → t σ W.H Q
/-- .. a thing to be looked at at once -/
structure OP (G : Gb) (C : Ct) (b : Bool) (e : Expr) (m : M D) : Prop where
  pu : b = true → ∀ Γ d Γ', m Γ = .ok d Γ' → Γ' = Γ
  go : ∀ X, OkX G C X → ∃ t, PE X e t ∧ ∀ ρ W σ Γ Q, Rl G.K C.io ρ W σ Γ → wp (m Γ) (fun d Γ' => ∀ v W', Lw b W W' → Rl G.K C.io ρ W' σ Γ' → vw G.K W'.F W'.H d v → Q v W'.H) → t σ W.H Q
/-- .. an own thing -/
structure SO (G : Gb) (C : Ct) (b : Bool) (e : Expr) (m : M T) : Prop where
  pu : b = true → ∀ Γ d Γ', m Γ = .ok d Γ' → Γ' = Γ
  go : ∀ X, OkX G C X → ∃ t, PE X e t ∧ ∀ ρ W σ Γ Q, Rl G.K C.io ρ W σ Γ → wp (m Γ) (fun d Γ' => ∀ v W' B, Lw b W W' → Rl G.K C.io ρ W' σ Γ' → Fre G.K b W W' d v B → Q v W'.H) → t σ W.H Q
/-- a test -/
structure SB (G : Gb) (C : Ct) (b : Bool) (e : Expr) (m : M Bool) : Prop where
  pu : b = true → ∀ Γ d Γ', m Γ = .ok d Γ' → Γ' = Γ
  go : ∀ X, OkX G C X → ∃ t, PT X e t ∧ ∀ ρ W σ Γ Q, Rl G.K C.io ρ W σ Γ → wp (m Γ) (fun d Γ' => ∀ W', Lw b W W' → Rl G.K C.io ρ W' σ Γ' → Q d W'.H) → t σ W.H Q
/-- arguments -/
structure SA (G : Gb) (C : Ct) (b : Bool) (es : List Expr) (m : M (List D)) : Prop where
  pu : b = true → ∀ Γ d Γ', m Γ = .ok d Γ' → Γ' = Γ
  go : ∀ X, OkX G C X → ∃ t, PA X es t ∧ ∀ ρ W σ Γ Q, Rl G.K C.io ρ W σ Γ → wp (m Γ) (fun ds Γ' => ∀ vs W', Lw b W W' → Rl G.K C.io ρ W' σ Γ' → reps G.K W'.F ds vs → Q vs W'.H) → t σ W.H Q
inductive Out where
  | nx | rt (t : T) | bk | ct
def Ends.at (K : PySem.W.Frag) (io : List Nat) (ρ : List (Nat × V)) (W : Wd) (E : Ends) (o : Out) (Γ' : Sl) : Prop :=
  match o with
  | .nx => ∀ σ' W', Le W W' → Rl K io ρ W' σ' Γ' → E.nx σ' W'.H
  | .bk => ∀ σ' W', Le W W' → Rl K io ρ W' σ' Γ' → E.bk σ' W'.H
  | .ct => ∀ σ' W', Le W W' → Rl K io ρ W' σ' Γ' → E.ct σ' W'.H
  | .rt t => ∀ v σ' W' B, Le W W' → Rl K io ρ W' σ' Γ' → Fre K false W W' t v B → E.rt v W'.H
structure SS (G : Gb) (C : Ct) (st : Stmt) (m : M Out) : Prop where
  go : ∀ X, OkX G C X → ∃ t, PS X st t ∧ ∀ ρ W σ Γ E, Rl G.K C.io ρ W σ Γ → wp (m Γ) (Ends.at G.K C.io ρ W E) → t E σ W.H
structure SSs (G : Gb) (C : Ct) (st : List Stmt) (m : M Out) : Prop where
  go : ∀ X, OkX G C X → ∃ t, PSs X st t ∧ ∀ ρ W σ Γ E, Rl G.K C.io ρ W σ Γ → wp (m Γ) (Ends.at G.K C.io ρ W E) → t E σ W.H
end PM
set_option Elab.async false
set_option linter.all false
set_option maxRecDepth 100000
set_option maxHeartbeats 2000000
set_option autoImplicit false
namespace PM
open PySem PySem.Spec PyProof.Rows L2
/-! ### what is made -/
inductive Made (K : PySem.W.Frag) (F H : Hp) : T → V → Hp → Hp → Prop
  | same {d : D} {v : V} : rep K F d v → Made K F H (.sh d) v F H
  | lst {p : Addr} {ds : List D} {vs : List V} : H p = none → reps K F ds vs → Made K F H (.fl ds) (.ref p) F (upd H p (.lst vs))
  | tup {p : Addr} {ds : List D} {vs : List V} : H p = none → reps K F ds vs → Made K F H (.sh (.tup ds)) (.ref p) (upd F p (.tup vs)) (upd H p (.tup vs))
theorem none_of_sub {F H : Hp} (s : Sub F H) {p : Addr} (h : H p = none) : F p = none := by
  cases e : F p with
  | none => rfl
  | some o => rw [s _ _ e] at h; cases h
theorem sub_upd {F H : Hp} (s : Sub F H) {p : Addr} {o : HO} (h : H p = none) : Sub F (upd H p o) := s.tr (Sub.new h)
theorem sub_both {F H : Hp} (s : Sub F H) {p : Addr} {o : HO} (h : H p = none) : Sub (upd F p o) (upd H p o) := fun a u e => by
  by_cases q : a = p
  · subst q; rw [upd_same] at e ⊢; exact e
  · rw [upd_ne q] at e ⊢; exact s a u e
theorem made_ok {K : PySem.W.Frag} {io : List Nat} {ρ : List (Nat × V)} {W : Wd} {σ : L2.St} {Γ : Sl} {t : T} {v : V} {F' H' : Hp} (r : Rl K io ρ W σ Γ) (m : Made K W.F W.H t v F' H') :
    Le0 W ⟨F', H', W.A⟩ ∧ Rl K io ρ ⟨F', H', W.A⟩ σ Γ ∧ ∃ B, Fre K true W ⟨F', H', W.A⟩ t v B := by
  cases m with
  | same h =>
    exact ⟨Le0.refl W, r, fun _ => False, h, fun _ _ _ z => z, fun _ z => z.elim, fun _ z => z.elim, fun _ z => z.elim, fun _ _ z => z.elim⟩
  | @lst p ds vs hp h =>
    have l : Le0 W ⟨W.F, upd W.H p (.lst vs), W.A⟩ := ⟨Sub.rfl', Sub.new hp, rfl, fun _ _ e => .inl e⟩
    refine ⟨l, r.more l (sub_upd r.sub hp), fun a => a = p, ?_, ?_, ?_, ?_, ?_, ?_⟩
    · exact ⟨p, vs, rfl, rfl, upd_same, h⟩
    · rintro i a q rfl
      obtain ⟨u, hu⟩ := r.alc i a q
      rw [hp] at hu; cases hu
    · rintro a rfl; exact none_of_sub r.sub hp
    · rintro a rfl; exact ⟨_, upd_same⟩
    · rintro a rfl; exact .inr hp
    · rintro _ a rfl; exact hp
  | @tup p ds vs hp h =>
    have hf := none_of_sub r.sub hp
    have l : Le0 W ⟨upd W.F p (.tup vs), upd W.H p (.tup vs), W.A⟩ := ⟨Sub.new hf, Sub.new hp, rfl, fun a o e => by
      by_cases q : a = p
      · subst q; exact .inr hp
      · exact .inl (by rw [← e]; exact (upd_ne q).symm)⟩
    refine ⟨l, r.more l (sub_both r.sub hp), fun _ => False, ⟨p, vs, rfl, upd_same, reps_sub (Sub.new hf) _ _ h⟩, fun _ _ _ z => z, fun _ z => z.elim, fun _ z => z.elim, fun _ z => z.elim, fun _ _ z => z.elim⟩
theorem Fre.back {K : PySem.W.Frag} {b : Bool} {W W1 W2 : Wd} {t : T} {v : V} {B : Addr → Prop} (l : Lw b W W1) (f : Fre K true W1 W2 t v B) : Fre K b W W2 t v B where
  own := f.own
  dis := f.dis
  nof := f.nof
  alc := f.alc
  ft := fun a h => l.le.back (f.nw rfl a h)
  nw := fun e a h => by
    subst e
    cases q : W.H a with
    | none => rfl
    | some o =>
      have l' : Le0 W W1 := l
      have := f.nw rfl a h
      rw [l'.fr _ _ q] at this; cases this
def opt {α : Type} (o : Option α) : M α := fun Γ => match o with
  | some a => .ok a Γ
  | none => .stuck
@[simp] theorem opt_some {α : Type} (a : α) (Γ : Sl) : opt (some a) Γ = .ok a Γ := rfl
@[simp] theorem opt_none {α : Type} (Γ : Sl) : opt (none : Option α) Γ = .stuck := rfl
def M.pure {α : Type} (a : α) : M α := fun Γ => .ok a Γ
@[simp] theorem M.pure_ap {α : Type} (a : α) (Γ : Sl) : M.pure a Γ = .ok a Γ := rfl
def M.bind {α β : Type} (m : M α) (f : α → M β) : M β := fun Γ => (m Γ).bind f
@[simp] theorem M.bind_ap {α β : Type} (m : M α) (f : α → M β) (Γ : Sl) : m.bind f Γ = (m Γ).bind f := rfl
theorem pu_bind {α β : Type} {m : M α} {f : α → M β} (h : ∀ Γ d Γ', m Γ = .ok d Γ' → Γ' = Γ) (k : ∀ a Γ d Γ', f a Γ = .ok d Γ' → Γ' = Γ) : ∀ Γ d Γ', m.bind f Γ = .ok d Γ' → Γ' = Γ := by
  intro Γ d Γ' e
  rw [M.bind_ap] at e
  cases q : m Γ with
  | stuck => rw [q] at e; cases e
  | ok a Γ1 =>
    rw [q] at e
    rw [k a Γ1 d Γ' e, h Γ a Γ1 q]
theorem pu_opt {α : Type} {o : Option α} : ∀ Γ d Γ', opt o Γ = .ok d Γ' → Γ' = Γ := by
  intro Γ d Γ' e
  cases o with
  | none => cases e
  | some a => cases e; rfl
/-- what may be looked at -/
def T.v? : T → Option D
  | .sh d => some d
  | .fl ds => some (.lst ds)
  | .dk kvs => some (.dK kvs)
  | .dt kvs => some (.dT kvs)
  | _ => none
@[simp] theorem T.v_sh (d : D) : (T.sh d).v? = some d := rfl
@[simp] theorem T.v_fl (d : List D) : (T.fl d).v? = some (.lst d) := rfl
@[simp] theorem T.v_dk (d : List (Key × D)) : (T.dk d).v? = some (.dK d) := rfl
@[simp] theorem T.v_dt (d : List (List Key × D)) : (T.dt d).v? = some (.dT d) := rfl
mutual
/-- what it is once nobody changes it any more -/
def T.d? : T → Option D
  | .sh d => some d
  | .fl ds => some (.lst ds)
  | .dk kvs => some (.dK kvs)
  | .dt kvs => some (.dT kvs)
  | .bx ts => (T.ds? ts).map .lst
  | .ob c fs => (T.fs? fs).map (.ins c)
def T.ds? : List T → Option (List D)
  | [] => some []
  | t :: ts => match t.d?, T.ds? ts with
    | some d, some ds => some (d :: ds)
    | _, _ => none
def T.fs? : List (Str × T) → Option (List (Str × D))
  | [] => some []
  | (f, t) :: ts => match t.d?, T.fs? ts with
    | some d, some ds => some ((f, d) :: ds)
    | _, _ => none
end
@[simp] theorem T.d_sh (d : D) : (T.sh d).d? = some d := by simp [T.d?]
@[simp] theorem T.d_fl (d : List D) : (T.fl d).d? = some (.lst d) := by simp [T.d?]
@[simp] theorem T.d_dk (d : List (Key × D)) : (T.dk d).d? = some (.dK d) := by simp [T.d?]
@[simp] theorem T.d_dt (d : List (List Key × D)) : (T.dt d).d? = some (.dT d) := by simp [T.d?]
@[simp] theorem T.d_ob (c : Str) (fs : List (Str × T)) : (T.ob c fs).d? = (T.fs? fs).map (.ins c) := by simp [T.d?]
@[simp] theorem T.d_bx (ts : List T) : (T.bx ts).d? = (T.ds? ts).map .lst := by simp [T.d?]
@[simp] theorem T.fs_nil : T.fs? [] = some [] := by simp [T.fs?]
@[simp] theorem T.fs_cons (f : Str) (t : T) (ts : List (Str × T)) : T.fs? ((f, t) :: ts) = match t.d?, T.fs? ts with
    | some d, some ds => some ((f, d) :: ds)
    | _, _ => none := by rw [T.fs?]
@[simp] theorem T.ds_nil : T.ds? [] = some [] := by simp [T.ds?]
@[simp] theorem T.ds_cons (t : T) (ts : List T) : T.ds? (t :: ts) = match t.d?, T.ds? ts with
    | some d, some ds => some (d :: ds)
    | _, _ => none := by rw [T.ds?]
/-- an own object is given away -/
theorem own_vw {K : PySem.W.Frag} {F H : Hp} (s : Sub F H) {t : T} {v : V} {A : Addr → Prop} {d : D} (h : own K F H t v A) (e : t.v? = some d) : vw K F H d v := by
  cases t with
  | sh d' => cases e; exact vw_of s h
  | fl ds => cases e; obtain ⟨p, vs, e1, _, a, r⟩ := h; exact ⟨p, vs, e1, a, r⟩
  | dk ds => cases e; obtain ⟨p, vs, e1, _, a, r⟩ := h; exact ⟨p, vs, e1, a, r⟩
  | dt ds => cases e; obtain ⟨p, vs, e1, _, a, r⟩ := h; exact ⟨p, vs, e1, a, r⟩
  | bx ts => cases e
  | ob c fs => cases e
/-- F' is F and some of A -/
structure Fz (F F' H : Hp) (A : Addr → Prop) : Prop where
  lo : Sub F F'
  hi : Sub F' H
  nw : ∀ a o, F' a = some o → F a = some o ∨ A a
theorem Fz.refl {F H : Hp} {A : Addr → Prop} (s : Sub F H) : Fz F F H A := ⟨Sub.rfl', s, fun _ _ q => .inl q⟩
theorem Fz.tr {F F1 F2 H : Hp} {A B : Addr → Prop} (h : Fz F F1 H A) (k : Fz F1 F2 H B) (m : ∀ a, B a → A a) : Fz F F2 H A :=
  ⟨h.lo.tr k.lo, k.hi, fun a o q => (k.nw a o q).elim (h.nw a o) fun z => .inr (m a z)⟩
theorem Fz.one {F H : Hp} {A : Addr → Prop} (s : Sub F H) {p : Addr} {o : HO} (n : F p = none) (ap : A p) (hp : H p = some o) : Fz F (upd F p o) H A := by
  refine ⟨Sub.new n, fun a u q => ?_, fun a u q => ?_⟩
  · by_cases z : a = p
    · subst z; rw [upd_same] at q; cases q; exact hp
    · rw [upd_ne z] at q; exact s _ _ q
  · by_cases z : a = p
    · subst z; exact .inr ap
    · rw [upd_ne z] at q; exact .inl q
theorem Fz.non {F F' H : Hp} {A : Addr → Prop} (h : Fz F F' H A) {a : Addr} (n : F a = none) (na : ¬ A a) : F' a = none := by
  cases z : F' a with
  | none => rfl
  | some o =>
    rcases h.nw a o z with q | q
    · rw [n] at q; cases q
    · exact (na q).elim
section
variable {K : PySem.W.Frag} {H : Hp}
mutual
theorem own_frz : ∀ (t : T) (F : Hp) (v : V) (A : Addr → Prop) (d : D), Sub F H → (∀ a, A a → F a = none) → own K F H t v A → t.d? = some d → ∃ F', Fz F F' H A ∧ rep K F' d v
  | .sh d', F, v, A, d, s, nf, h, e => by
    rw [T.d_sh] at e; cases e
    exact ⟨F, Fz.refl s, h⟩
  | .fl ds, F, v, A, d, s, nf, h, e => by
    rw [T.d_fl] at e; cases e
    obtain ⟨p, vs, e1, ap, a, r⟩ := h
    have z := Fz.one (A := A) s (nf p ap) ap a
    exact ⟨_, z, p, vs, e1, upd_same, reps_sub z.lo _ _ r⟩
  | .dk ds, F, v, A, d, s, nf, h, e => by
    rw [T.d_dk] at e; cases e
    obtain ⟨p, vs, e1, ap, a, r⟩ := h
    have z := Fz.one (A := A) s (nf p ap) ap a
    exact ⟨_, z, p, vs, e1, upd_same, repk_sub z.lo _ _ r⟩
  | .dt ds, F, v, A, d, s, nf, h, e => by
    rw [T.d_dt] at e; cases e
    obtain ⟨p, vs, e1, ap, a, r⟩ := h
    have z := Fz.one (A := A) s (nf p ap) ap a
    exact ⟨_, z, p, vs, e1, upd_same, rept_sub z.lo _ _ r⟩
  | .bx ts, F, v, A, d, s, nf, h, e => by
    rw [T.d_bx] at e
    obtain ⟨ds, e2, rfl⟩ := Option.map_eq_some_iff.mp e
    obtain ⟨p, vs, e1, ap, a, r⟩ := h
    obtain ⟨F1, z1, r1⟩ := owns_frz ts F vs _ ds s (fun b hb => nf b hb.1) r e2
    have z2 := Fz.one (A := A) z1.hi (z1.non (nf p ap) fun q => q.2 rfl) ap a
    exact ⟨_, (Fz.tr (A := A) ⟨z1.lo, z1.hi, fun b o q => (z1.nw b o q).imp id (·.1)⟩ z2 fun _ q => q), p, vs, e1, upd_same, reps_sub z2.lo _ _ r1⟩
  | .ob c fs, F, v, A, d, s, nf, h, e => by
    rw [T.d_ob] at e
    obtain ⟨ds, e2, rfl⟩ := Option.map_eq_some_iff.mp e
    obtain ⟨p, dx, gs, e1, ap, a, r⟩ := h
    obtain ⟨F1, z1, r1⟩ := ownf_frz fs F gs _ ds s (fun b hb => nf b hb.1) r e2
    have z2 := Fz.one (A := A) z1.hi (z1.non (nf p ap) fun q => q.2 rfl) ap a
    exact ⟨_, (Fz.tr (A := A) ⟨z1.lo, z1.hi, fun b o q => (z1.nw b o q).imp id (·.1)⟩ z2 fun _ q => q), p, dx, gs, e1, upd_same, repf_sub z2.lo _ _ r1⟩
theorem owns_frz : ∀ (ts : List T) (F : Hp) (vs : List V) (A : Addr → Prop) (ds : List D), Sub F H → (∀ a, A a → F a = none) → owns K F H ts vs A → T.ds? ts = some ds → ∃ F', Fz F F' H A ∧ reps K F' ds vs
  | [], F, vs, A, ds, s, nf, h, e => by
    rw [T.ds_nil] at e; cases e
    exact ⟨F, Fz.refl s, h⟩
  | t :: ts, F, vs, A, ds, s, nf, h, e => by
    obtain ⟨w, ws, B, e1, o, m, r⟩ := h
    rw [T.ds_cons] at e
    split at e
    · rename_i d ds' h1 h2
      cases e
      obtain ⟨F1, z1, r1⟩ := own_frz t F w B d s (fun b hb => nf b (m b hb)) o h1
      have r' := owns_sub (F' := F1) (H' := H) z1.lo ts ws _ _ (fun _ q => q) (fun _ _ _ q => q) r
      obtain ⟨F2, z2, r2⟩ := owns_frz ts F1 ws _ ds' z1.hi (fun b hb => z1.non (nf b hb.1) hb.2) r' h2
      exact ⟨F2, Fz.tr (A := A) ⟨z1.lo, z1.hi, fun b o q => (z1.nw b o q).imp id (m b)⟩ z2 (fun _ q => q.1), w, ws, e1, rep_sub z2.lo _ _ r1, r2⟩
    · cases e
theorem ownf_frz : ∀ (ts : List (Str × T)) (F : Hp) (vs : List (Str × V)) (A : Addr → Prop) (ds : List (Str × D)), Sub F H → (∀ a, A a → F a = none) → ownf K F H ts vs A → T.fs? ts = some ds → ∃ F', Fz F F' H A ∧ repf K F' ds vs
  | [], F, vs, A, ds, s, nf, h, e => by
    rw [T.fs_nil] at e; cases e
    exact ⟨F, Fz.refl s, h⟩
  | (f, t) :: ts, F, vs, A, ds, s, nf, h, e => by
    obtain ⟨w, ws, B, e1, o, m, r⟩ := h
    rw [T.fs_cons] at e
    split at e
    · rename_i d ds' h1 h2
      cases e
      obtain ⟨F1, z1, r1⟩ := own_frz t F w B d s (fun b hb => nf b (m b hb)) o h1
      have r' := ownf_sub (F' := F1) (H' := H) z1.lo ts ws _ _ (fun _ q => q) (fun _ _ _ q => q) r
      obtain ⟨F2, z2, r2⟩ := ownf_frz ts F1 ws _ ds' z1.hi (fun b hb => z1.non (nf b hb.1) hb.2) r' h2
      exact ⟨F2, Fz.tr (A := A) ⟨z1.lo, z1.hi, fun b o q => (z1.nw b o q).imp id (m b)⟩ z2 (fun _ q => q.1), w, ws, e1, rep_sub z2.lo _ _ r1, r2⟩
    · cases e
end
end
/-- a fresh own thing becomes a value -/
theorem fre_frz {K : PySem.W.Frag} {io : List Nat} {ρ : List (Nat × V)} {b : Bool} {W W' : Wd} {σ : L2.St} {Γ : Sl} {t : T} {v : V} {B : Addr → Prop} {d : D} (l : Lw b W W') (r : Rl K io ρ W' σ Γ) (f : Fre K b W W' t v B) (e : t.d? = some d) :
    ∃ F', Lw b W ⟨F', W'.H, W'.A⟩ ∧ Rl K io ρ ⟨F', W'.H, W'.A⟩ σ Γ ∧ rep K F' d v := by
  obtain ⟨F', ⟨s1, s2, s3⟩, rp⟩ := own_frz t W'.F v B d r.sub f.nof f.own e
  refine ⟨F', ?_, ⟨s2, r.len, fun i t' q => ?_, r.dis, fun i a q => ?_, r.alc, r.fix⟩, rp⟩
  · cases b with
    | true =>
      have l' : Le0 W W' := l
      exact ⟨l'.ext.tr s1, l'.fr, l'.ft, fun a o q => by
        rcases s3 a o q with q | q
        · exact l'.nw a o q
        · exact .inr (f.nw rfl a q)⟩
    | false =>
      have l' : Le W W' := l
      exact ⟨l'.ext.tr s1, l'.fr, l'.ft, fun a o q => by
        rcases s3 a o q with q | q
        · exact l'.nw a o q
        · exact .inr (f.ft a q)⟩
  · obtain ⟨v', e1, o⟩ := r.slot i t' q
    exact ⟨v', e1, own_sub s1 t' v' _ _ (fun _ x => x) (fun _ _ _ x => x) o⟩
  · cases z : F' a with
    | none => exact z
    | some o =>
      rcases s3 a o z with y | y
      · rw [r.nof i a q] at y; cases y
      · exact (f.dis i a q y).elim
section
variable {G : Gb} {C : Ct} {b : Bool} {e : Expr}
theorem SE.op {m : M D} (h : SE G C b e m) : OP G C b e m := ⟨h.pu, fun X ok => by
  obtain ⟨t, pe, q⟩ := h.go X ok
  exact ⟨t, pe, fun ρ W σ Γ Q r w => q ρ W σ Γ Q r (wp_mono w fun d Γ' _ k v W' l r' rp => k v W' l r' (vw_of r'.sub rp))⟩⟩
theorem SE.weak {m : M D} (h : SE G C true e m) : SE G C b e m := by
  cases b with
  | true => exact h
  | false =>
    refine ⟨fun z => (by cases z), fun X ok => ?_⟩
    obtain ⟨t, pe, q⟩ := h.go X ok
    exact ⟨t, pe, fun ρ W σ Γ Q r w => q ρ W σ Γ Q r (wp_mono w fun d Γ' _ k v W' l r' rp => k v W' (Le0.le l) r' rp)⟩
theorem OP.weak {m : M D} (h : OP G C true e m) : OP G C b e m := by
  cases b with
  | true => exact h
  | false =>
    refine ⟨fun z => (by cases z), fun X ok => ?_⟩
    obtain ⟨t, pe, q⟩ := h.go X ok
    exact ⟨t, pe, fun ρ W σ Γ Q r w => q ρ W σ Γ Q r (wp_mono w fun d Γ' _ k v W' l r' rp => k v W' (Le0.le l) r' rp)⟩
theorem SO.weak {m : M T} (h : SO G C true e m) : SO G C b e m := by
  cases b with
  | true => exact h
  | false =>
    refine ⟨fun z => (by cases z), fun X ok => ?_⟩
    obtain ⟨t, pe, q⟩ := h.go X ok
    exact ⟨t, pe, fun ρ W σ Γ Q r w => q ρ W σ Γ Q r (wp_mono w fun d Γ' _ k v W' B l r' fr => k v W' B (Le0.le l) r' ⟨fr.own, fr.dis, fr.nof, fr.alc, fr.ft, fun z => by cases z⟩)⟩
theorem SB.weak {m : M Bool} (h : SB G C true e m) : SB G C b e m := by
  cases b with
  | true => exact h
  | false =>
    refine ⟨fun z => (by cases z), fun X ok => ?_⟩
    obtain ⟨t, pe, q⟩ := h.go X ok
    exact ⟨t, pe, fun ρ W σ Γ Q r w => q ρ W σ Γ Q r (wp_mono w fun d Γ' _ k W' l r' => k W' (Le0.le l) r')⟩
/-- a value as an own thing -/
def shM (m : M D) : M T := m.bind fun d => M.pure (.sh d)
theorem SE.so {m : M D} (h : SE G C b e m) : SO G C b e (shM m) := ⟨fun z => pu_bind (h.pu z) fun a Γ d Γ' e => by cases e; rfl, fun X ok => by
  obtain ⟨t, pe, q⟩ := h.go X ok
  refine ⟨t, pe, fun ρ W σ Γ Q r w => q ρ W σ Γ Q r (wp_mono (wp_bind.mp w) fun d Γ' _ k v W' l r' rp => ?_)⟩
  exact k v W' (fun _ => False) l r' ⟨rp, fun _ _ _ z => z, fun _ z => z.elim, fun _ z => z.elim, fun _ z => z.elim, fun _ _ z => z.elim⟩⟩
/-- an own thing given away -/
def fz (m : M T) : M D := m.bind fun t => opt t.d?
theorem SO.se {m : M T} (h : SO G C b e m) : SE G C b e (fz m) := ⟨fun z => pu_bind (h.pu z) fun a => pu_opt, fun X ok => by
  obtain ⟨t, pe, q⟩ := h.go X ok
  refine ⟨t, pe, fun ρ W σ Γ Q r w => q ρ W σ Γ Q r (wp_mono (wp_bind.mp w) fun u Γ' _ k v W' B l r' fr => ?_)⟩
  cases z : u.d? with
  | none => rw [z] at k; exact k.elim
  | some d =>
    rw [z] at k
    obtain ⟨F', l2, r2, rp⟩ := fre_frz l r' fr z
    exact k v ⟨F', W'.H, W'.A⟩ l2 r2 rp⟩
/-! ### names, constants -/
def mVar (i : Nat) : M D := fun Γ => match Γ[i]? with
  | some (some (.sh d)) => .ok d Γ
  | _ => .stuck
def mVw (i : Nat) : M D := fun Γ => match Γ[i]? with
  | some (some t) => opt t.v? Γ
  | _ => .stuck
/-- read, and nobody changes it any more -/
def mFz (i : Nat) : M D := fun Γ => match Γ[i]? with
  | some (some t) => (match t.d? with
    | some d => .ok d (Γ.set i (some (.sh d)))
    | none => .stuck)
  | _ => .stuck
/-- taken away -/
def mMv (i : Nat) : M T := fun Γ => match Γ[i]? with
  | some (some t) => .ok t (Γ.set i none)
  | _ => .stuck
variable {i : Nat} {x : Str} {pos : Pos}
theorem ok_pv {X : Cx} (ok : OkX G C X) (hN : C.N[i]? = some x) (hv : Vis C.sc x) (hd : (x == ("__debug__" : Str)) = false) (hcd : (x == ("__classdict__" : Str)) = false) : PE X (.Name x pos) (tVar i) :=
  pe_var (by rw [ok.eN]; exact hN) (by rw [ok.es]; exact hv) hd hcd
theorem se_var (i : Nat) (hN : C.N[i]? = some x) (hv : Vis C.sc x) (hd : (x == ("__debug__" : Str)) = false) (hcd : (x == ("__classdict__" : Str)) = false) : SE G C b (.Name x pos) (mVar i) := by
  refine ⟨fun _ Γ d Γ' e => ?_, fun X ok => ⟨tVar i, ok_pv ok hN hv hd hcd, fun ρ W σ Γ Q r h => ?_⟩⟩
  · unfold mVar at e; split at e <;> cases e; rfl
  · unfold mVar at h
    split at h
    · rename_i d q
      obtain ⟨v, e, o⟩ := r.slot i _ q
      exact ⟨v, e, h v W (Lw.refl b W) r o⟩
    · exact h.elim
theorem op_var (i : Nat) (hN : C.N[i]? = some x) (hv : Vis C.sc x) (hd : (x == ("__debug__" : Str)) = false) (hcd : (x == ("__classdict__" : Str)) = false) : OP G C b (.Name x pos) (mVw i) := by
  refine ⟨fun _ Γ d Γ' e => ?_, fun X ok => ⟨tVar i, ok_pv ok hN hv hd hcd, fun ρ W σ Γ Q r h => ?_⟩⟩
  · unfold mVw at e
    split at e
    · exact pu_opt Γ d Γ' e
    · cases e
  · unfold mVw at h
    split at h
    · rename_i t q
      obtain ⟨v, e, o⟩ := r.slot i _ q
      cases z : t.v? with
      | none => rw [z] at h; exact h.elim
      | some d => rw [z] at h; exact ⟨v, e, h v W (Lw.refl b W) r (own_vw r.sub o z)⟩
    · exact h.elim
/-- the slot i is given another word -/
theorem Rl.slots {K : PySem.W.Frag} {io : List Nat} {ρ : List (Nat × V)} {W W' : Wd} {σ : L2.St} {Γ : Sl} {i : Nat} {o : Option T} (r : Rl K io ρ W σ Γ)
    (hH : W'.H = W.H) (s : Sub W.F W'.F) (s2 : Sub W'.F W'.H) (hA : ∀ j a, W'.A j a → W.A j a) (hA2 : ∀ j a, j ≠ i → W.A j a → W'.A j a) (hF : ∀ a u, W'.F a = some u → W.F a = some u ∨ W.A i a) (hFi : ∀ a, W'.A i a → W'.F a = none)
    (hs : ∀ t, o = some t → ∃ v, σ[i]? = some (some v) ∧ own K W'.F W'.H t v (W'.A i)) : Rl K io ρ W' σ (Γ.set i o) where
  sub := s2
  len := by rw [List.length_set]; exact r.len
  slot := fun j t e => by
    by_cases q : i = j
    · subst q
      by_cases hi : i < Γ.length
      · rw [List.getElem?_set_self hi] at e
        exact hs t (Option.some.inj e)
      · rw [List.getElem?_eq_none (by rw [List.length_set]; omega)] at e; cases e
    · rw [List.getElem?_set_ne q] at e
      obtain ⟨v, e1, ow⟩ := r.slot j t e
      exact ⟨v, e1, own_sub s t v _ _ (fun a => hA2 j a (Ne.symm q)) (fun a u _ z => by rw [hH]; exact z) ow⟩
  dis := fun j k a n x y => r.dis j k a n (hA j a x) (hA k a y)
  nof := fun j a x => by
    by_cases q : j = i
    · subst q; exact hFi a x
    · cases z : W'.F a with
      | none => rfl
      | some u =>
        rcases hF a u z with z | z
        · rw [r.nof j a (hA j a x)] at z; cases z
        · exact (r.dis j i a q (hA j a x) z).elim
  alc := fun j a x => by rw [hH]; exact r.alc j a (hA j a x)
  fix := r.fix
theorem se_fz (i : Nat) (hN : C.N[i]? = some x) (hv : Vis C.sc x) (hd : (x == ("__debug__" : Str)) = false) (hcd : (x == ("__classdict__" : Str)) = false) : SE G C false (.Name x pos) (mFz i) := by
  refine ⟨fun z => (by cases z), fun X ok => ⟨tVar i, ok_pv ok hN hv hd hcd, fun ρ W σ Γ Q r h => ?_⟩⟩
  unfold mFz at h
  split at h
  · rename_i t q
    obtain ⟨v, e, o⟩ := r.slot i _ q
    cases z : t.d? with
    | none => rw [z] at h; exact h.elim
    | some d =>
      rw [z] at h
      obtain ⟨F', ⟨s1, s2, s3⟩, rp⟩ := own_frz t W.F v _ d r.sub (r.nof i) o z
      refine ⟨v, e, h v ⟨F', W.H, fun j a => j ≠ i ∧ W.A j a⟩ ?_ ?_ rp⟩
      · exact ⟨s1, fun a u _ z => z, fun j a z => .inl ⟨j, z.2⟩, fun a u z => (s3 a u z).imp id fun y => .inl ⟨i, y⟩⟩
      · exact r.slots rfl s1 s2 (fun j a z => z.2) (fun j a n z => ⟨n, z⟩) s3 (fun a z => (z.1 rfl).elim) fun t' e' => by cases e'; exact ⟨v, e, rp⟩
  · exact h.elim
theorem so_mv (i : Nat) (hN : C.N[i]? = some x) (hv : Vis C.sc x) (hd : (x == ("__debug__" : Str)) = false) (hcd : (x == ("__classdict__" : Str)) = false) : SO G C false (.Name x pos) (mMv i) := by
  refine ⟨fun z => (by cases z), fun X ok => ⟨tVar i, ok_pv ok hN hv hd hcd, fun ρ W σ Γ Q r h => ?_⟩⟩
  unfold mMv at h
  split at h
  · rename_i t q
    obtain ⟨v, e, o⟩ := r.slot i _ q
    refine ⟨v, e, h v ⟨W.F, W.H, fun j a => j ≠ i ∧ W.A j a⟩ (W.A i) ?_ ?_ ?_⟩
    · exact ⟨Sub.rfl', fun a u _ z => z, fun j a z => .inl ⟨j, z.2⟩, fun a u z => .inl z⟩
    · exact r.slots rfl Sub.rfl' r.sub (fun j a z => z.2) (fun j a n z => ⟨n, z⟩) (fun a u z => .inl z) (fun a z => (z.1 rfl).elim) fun t' e' => by cases e'
    · exact ⟨o, fun j a z y => r.dis j i a z.1 z.2 y, r.nof i, r.alc i, fun a z => .inl ⟨i, z⟩, fun z => by cases z⟩
  · exact h.elim
theorem se_c {d : D} {v : V} {t : TE} {e : Expr} (hp : ∀ X, OkX G C X → PE X e t) (ht : ∀ σ H (Q : VK), Q v H → t σ H Q) (hr : ∀ F, rep G.K F d v) : SE G C b e (M.pure d) :=
  ⟨fun _ Γ d' Γ' e => by cases e; rfl, fun X ok => ⟨t, hp X ok, fun ρ W σ Γ Q r h => ht σ W.H Q (h v W (Lw.refl b W) r (hr W.F))⟩⟩
theorem se_int {n : Int} {j : Nat} : SE G C b (.Constant (.int n) j pos) (M.pure (.int n)) := se_c (v := .int n) (fun _ _ => pe_int) (fun _ _ _ q => q) fun _ => rfl
theorem se_bl {n : Bool} {j : Nat} : SE G C b (.Constant (.bool n) j pos) (M.pure (.bl n)) := se_c (v := .bl n) (fun _ _ => pe_bl) (fun _ _ _ q => q) fun _ => rfl
theorem se_non {j : Nat} : SE G C b (.Constant .none j pos) (M.pure .non) := se_c (v := .non) (fun _ _ => pe_non) (fun _ _ _ q => q) fun _ => rfl
theorem se_str (s : Txt) {j : Nat} (hx : x = tx s := by rfl) : SE G C b (.Constant (.str x) j pos) (M.pure (.str s)) := se_c (v := .str x) (fun _ _ => pe_str) (fun _ _ _ q => q) fun _ => by rw [hx]; rfl
/-- a text of the module -/
theorem se_glob (s : Txt) {z : Str} (hg : C.sc.names.lookup x = some .globalImplicit) (hm : ∃ t, G.mg x = some (.str z t)) (hz : z = tx s) (hd : (x == ("__debug__" : Str)) = false) : SE G C b (.Name x pos) (M.pure (.str s)) := by
  obtain ⟨t, hm⟩ := hm
  refine se_c (v := .str z) (fun X ok => pe_glob (u := .str z t) (v := .str z) (by show X.env.scope.names.lookup x = _; rw [ok.es]; exact hg) ?_ ⟨t, rfl⟩ hd) (fun _ _ _ q => q) fun _ => by rw [hz]; rfl
  have := ok.g
  subst this
  exact hm
end
end PM
set_option Elab.async false
set_option linter.all false
set_option maxRecDepth 100000
set_option maxHeartbeats 2000000
set_option autoImplicit false
namespace PM
open PySem PySem.Spec PyProof.Rows L2
abbrev line : Nat := 16777216
theorem line_le {n : Nat} (h : n ≤ line) : n ≤ sizeLine := by rw [sizeLine_eq]; exact h
section
variable {K : PySem.W.Frag} {F H : Hp}
theorem reps_len : ∀ {ds : List D} {vs : List V}, reps K F ds vs → ds.length = vs.length
  | [], vs, h => by rw [show vs = [] from h]; rfl
  | d :: ds, vs, h => by
    obtain ⟨w, ws, e, _, r⟩ := h
    rw [e, List.length_cons, List.length_cons, reps_len r]
theorem reps_app : ∀ {ds es : List D} {vs ws : List V}, reps K F ds vs → reps K F es ws → reps K F (ds ++ es) (vs ++ ws)
  | [], es, vs, ws, h, k => by rw [show vs = [] from h]; exact k
  | d :: ds, es, vs, ws, h, k => by
    obtain ⟨w, us, e, a, r⟩ := h
    rw [e]
    exact ⟨w, us ++ ws, rfl, a, reps_app r k⟩
theorem reps_nil : reps K F [] [] := rfl
theorem reps_cons {d : D} {ds : List D} {v : V} {vs : List V} (h : rep K F d v) (k : reps K F ds vs) : reps K F (d :: ds) (v :: vs) := ⟨v, vs, rfl, h, k⟩
theorem reps_get : ∀ {ds : List D} {vs : List V} {i : Nat} {d : D}, reps K F ds vs → ds[i]? = some d → ∃ v, vs[i]? = some v ∧ rep K F d v
  | d :: ds, vs, 0, d', h, e => by
    obtain ⟨w, us, q, a, r⟩ := h
    cases e
    exact ⟨w, by rw [q]; rfl, a⟩
  | d :: ds, vs, i + 1, d', h, e => by
    obtain ⟨w, us, q, a, r⟩ := h
    obtain ⟨v, e1, e2⟩ := reps_get (i := i) r (by simpa using e)
    exact ⟨v, by rw [q]; simpa using e1, e2⟩
theorem reps_take : ∀ {ds : List D} {vs : List V} (n : Nat), reps K F ds vs → reps K F (ds.take n) (vs.take n)
  | [], vs, n, h => by rw [show vs = [] from h]; simp [reps]
  | d :: ds, vs, 0, h => by simp [reps]
  | d :: ds, vs, n + 1, h => by
    obtain ⟨w, us, q, a, r⟩ := h
    rw [q]
    exact ⟨w, us.take n, rfl, a, reps_take n r⟩
theorem reps_drop : ∀ {ds : List D} {vs : List V} (n : Nat), reps K F ds vs → reps K F (ds.drop n) (vs.drop n)
  | [], vs, n, h => by rw [show vs = [] from h]; simp [reps]
  | d :: ds, vs, 0, h => h
  | d :: ds, vs, n + 1, h => by
    obtain ⟨w, us, q, a, r⟩ := h
    rw [q]
    exact reps_drop n r
theorem reps_set : ∀ {ds : List D} {vs : List V} {d : D} {v : V} (i : Nat), reps K F ds vs → rep K F d v → reps K F (ds.set i d) (vs.set i v)
  | [], vs, d, v, i, h, k => by rw [show vs = [] from h]; simp [reps]
  | x :: ds, vs, d, v, 0, h, k => by
    obtain ⟨w, us, q, a, r⟩ := h
    rw [q]
    exact ⟨v, us, rfl, k, r⟩
  | x :: ds, vs, d, v, i + 1, h, k => by
    obtain ⟨w, us, q, a, r⟩ := h
    rw [q]
    exact ⟨w, us.set i v, rfl, a, reps_set i r k⟩
theorem reps_erase : ∀ {ds : List D} {vs : List V} (i : Nat), reps K F ds vs → reps K F (ds.eraseIdx i) (vs.eraseIdx i)
  | [], vs, i, h => by rw [show vs = [] from h]; simp [reps]
  | x :: ds, vs, 0, h => by
    obtain ⟨w, us, q, a, r⟩ := h
    rw [q]; exact r
  | x :: ds, vs, i + 1, h => by
    obtain ⟨w, us, q, a, r⟩ := h
    rw [q]
    exact ⟨w, us.eraseIdx i, rfl, a, reps_erase i r⟩
theorem reps_rep {ds : List D} {vs : List V} (h : reps K F ds vs) : ∀ k : Nat, reps K F (List.replicate k ds).flatten (List.replicate k vs).flatten
  | 0 => rfl
  | k + 1 => by
    rw [List.replicate_succ, List.replicate_succ, List.flatten_cons, List.flatten_cons]
    exact reps_app h (reps_rep h k)
end
/-! ### data of plain kinds -/
mutual
def D.py : D → Option PyData
  | .non => some .none
  | .bl b => some (.bool b)
  | .int i => some (.int i)
  | .str s => some (.str (tx s))
  | .tup xs => (D.pys xs).map .tuple
  | .lst xs => (D.pys xs).map .list
  | .frz xs => (D.pys xs).map .list
  | _ => none
def D.pys : List D → Option (List PyData)
  | [] => some []
  | x :: xs => match D.py x, D.pys xs with
    | some p, some q => some (p :: q)
    | _, _ => none
end
section
variable {K : PySem.W.Frag} {F H : Hp}
mutual
theorem dp_of (s : Sub F H) : ∀ (d : D) (v : V) (p : PyData), rep K F d v → d.py = some p → Dp K H v p
  | .non, v, p, h, e => by cases e; rw [show v = .non from h]; exact .non
  | .bl b, v, p, h, e => by cases e; rw [show v = .bl b from h]; exact .bl b
  | .int i, v, p, h, e => by cases e; rw [show v = .int i from h]; exact .int i
  | .str z, v, p, h, e => by cases e; rw [show v = .str (tx z) from h]; exact .str _
  | .tup xs, v, p, h, e => by
    obtain ⟨q, vs, e1, a, r⟩ := h
    obtain ⟨ps, e2, e3⟩ := Option.map_eq_some_iff.mp (show (D.pys xs).map PyData.tuple = some p from e)
    rw [e1, ← e3]
    exact .tup (.inl (.inl (s _ _ a))) (dps_of s xs vs ps r e2)
  | .lst xs, v, p, h, e => by
    obtain ⟨q, vs, e1, a, r⟩ := h
    obtain ⟨ps, e2, e3⟩ := Option.map_eq_some_iff.mp (show (D.pys xs).map PyData.list = some p from e)
    rw [e1, ← e3]
    exact .lst (.inl (.inl (s _ _ a))) (dps_of s xs vs ps r e2)
  | .frz xs, v, p, h, e => by
    obtain ⟨q, vs, e1, a, r⟩ := h
    obtain ⟨ps, e2, e3⟩ := Option.map_eq_some_iff.mp (show (D.pys xs).map PyData.list = some p from e)
    rw [e1, ← e3]
    exact .lst (sql_sub s a) (dps_of s xs vs ps r e2)
  | .ins _ _, v, p, h, e => by cases e
  | .dK _, v, p, h, e => by cases e
  | .dT _, v, p, h, e => by cases e
theorem dps_of (s : Sub F H) : ∀ (ds : List D) (vs : List V) (ps : List PyData), reps K F ds vs → D.pys ds = some ps → DpAll K H vs ps
  | [], vs, ps, h, e => by cases e; rw [show vs = [] from h]; exact .nil
  | d :: ds, vs, ps, h, e => by
    obtain ⟨w, ws, e1, a, r⟩ := h
    unfold D.pys at e
    cases e2 : d.py with
    | none => rw [e2] at e; cases e
    | some p =>
      cases e3 : D.pys ds with
      | none => rw [e2, e3] at e; cases e
      | some q =>
        rw [e2, e3] at e
        cases e
        rw [e1]
        exact .cons (dp_of s d w p a e2) (dps_of s ds ws q r e3)
end
theorem dp_vw (s : Sub F H) {d : D} {v : V} {p : PyData} (h : vw K F H d v) (e : d.py = some p) : Dp K H v p := by
  cases d with
  | lst xs =>
    obtain ⟨q, vs, e1, a, r⟩ := h
    obtain ⟨ps, e2, e3⟩ := Option.map_eq_some_iff.mp (show (D.pys xs).map PyData.list = some p from e)
    rw [e1, ← e3]
    exact .lst (.inl (.inl a)) (dps_of s xs vs ps r e2)
  | dK _ => cases e
  | dT _ => cases e
  | _ => exact dp_of s _ _ _ h e
/-- a sequence looked at -/
def D.seq? : D → Option (List D)
  | .lst xs => some xs
  | .frz xs => some xs
  | .tup xs => some xs
  | _ => none
theorem seq_vw (s : Sub F H) {d : D} {v : V} {xs : List D} (h : vw K F H d v) (e : d.seq? = some xs) : ∃ p vs, v = .ref p ∧ (SqL K H p vs ∨ SqT K H p vs) ∧ reps K F xs vs := by
  cases d with
  | lst ys => cases e; obtain ⟨p, vs, e1, a, r⟩ := h; exact ⟨p, vs, e1, .inl (.inl (.inl a)), r⟩
  | frz ys => cases e; obtain ⟨p, vs, e1, a, r⟩ := h; exact ⟨p, vs, e1, .inl (sql_sub s a), r⟩
  | tup ys => cases e; obtain ⟨p, vs, e1, a, r⟩ := h; exact ⟨p, vs, e1, .inr (.inl (.inl (s _ _ a))), r⟩
  | _ => cases e
def D.lst? : D → Option (List D)
  | .lst xs => some xs
  | .frz xs => some xs
  | _ => none
theorem lst_vw (s : Sub F H) {d : D} {v : V} {xs : List D} (h : vw K F H d v) (e : d.lst? = some xs) : ∃ p vs, v = .ref p ∧ SqL K H p vs ∧ reps K F xs vs := by
  cases d with
  | lst ys => cases e; obtain ⟨p, vs, e1, a, r⟩ := h; exact ⟨p, vs, e1, .inl (.inl a), r⟩
  | frz ys => cases e; obtain ⟨p, vs, e1, a, r⟩ := h; exact ⟨p, vs, e1, sql_sub s a, r⟩
  | _ => cases e
end
/-! ### two operands -/
structure Two (G : Gb) (C : Ct) (b : Bool) (a e : Expr) (m : M (D × D)) : Prop where
  pu : b = true → ∀ Γ d Γ', m Γ = .ok d Γ' → Γ' = Γ
  go : ∀ X, OkX G C X → ∃ ta tb, PE X a ta ∧ PE X e tb ∧ ∀ ρ W σ Γ (R : V → V → Hp → Prop), Rl G.K C.io ρ W σ Γ →
    wp (m Γ) (fun p Γ' => ∀ v u W', Lw b W W' → Rl G.K C.io ρ W' σ Γ' → vw G.K W'.F W'.H p.1 v → vw G.K W'.F W'.H p.2 u → R v u W'.H) → ta σ W.H fun x H1 => tb σ H1 fun y H2 => R x y H2
def mTwo (a b : M D) : M (D × D) := a.bind fun x => b.bind fun y => M.pure (x, y)
@[simp] theorem mTwo_ap (a b : M D) (Γ : Sl) : mTwo a b Γ = (a Γ).bind fun x Γ1 => (b Γ1).bind fun y Γ2 => .ok (x, y) Γ2 := rfl
section
variable {G : Gb} {C : Ct} {b : Bool} {a e : Expr} {pos : Pos} {ma mb : M D}
theorem two_pu (h1 : b = true → ∀ Γ d Γ', ma Γ = .ok d Γ' → Γ' = Γ) (h2 : b = true → ∀ Γ d Γ', mb Γ = .ok d Γ' → Γ' = Γ) (z : b = true) : ∀ Γ d Γ', mTwo ma mb Γ = .ok d Γ' → Γ' = Γ :=
  pu_bind (h1 z) fun x => pu_bind (h2 z) fun y Γ d Γ' e => by cases e; rfl
theorem two_s (ha : SE G C b a ma) (hb : OP G C b e mb) : Two G C b a e (mTwo ma mb) := ⟨two_pu ha.pu hb.pu, fun X ok => by
  obtain ⟨ta, pa, qa⟩ := ha.go X ok
  obtain ⟨tb, pb, qb⟩ := hb.go X ok
  refine ⟨ta, tb, pa, pb, fun ρ W σ Γ R r w => ?_⟩
  refine qa ρ W σ Γ _ r (wp_mono (wp_bind.mp w) fun x Γ1 _ w1 v W1 l1 r1 rp => ?_)
  refine qb ρ W1 σ Γ1 _ r1 (wp_mono (wp_bind.mp w1) fun y Γ2 _ k u W2 l2 r2 vy => ?_)
  exact k v u W2 (l1.tr l2) r2 (vw_of r2.sub (rep_sub l2.le.ext _ _ rp)) vy⟩
theorem two_v (ha : OP G C b a ma) (hb : OP G C true e mb) : Two G C b a e (mTwo ma mb) := ⟨two_pu ha.pu (fun _ => hb.pu rfl), fun X ok => by
  obtain ⟨ta, pa, qa⟩ := ha.go X ok
  obtain ⟨tb, pb, qb⟩ := hb.go X ok
  refine ⟨ta, tb, pa, pb, fun ρ W σ Γ R r w => ?_⟩
  refine qa ρ W σ Γ _ r (wp_mono (wp_bind.mp w) fun x Γ1 _ w1 v W1 l1 r1 vx => ?_)
  refine qb ρ W1 σ Γ1 _ r1 (wp_mono (wp_bind.mp w1) fun y Γ2 _ k u W2 l2 r2 vy => ?_)
  have l2' : Le0 W1 W2 := l2
  exact k v u W2 (l1.tr (Lw.of l2')) r2 (vw_sub l2'.ext l2'.fr vx) vy⟩
/-! ### operators -/
def VOp (K : PySem.W.Frag) (f : D → D → Option T) (r : R2) : Prop :=
  ∀ (F H : Hp) (dx dy : D) (x y : V) (t : T) (Q : VK), Sub F H → vw K F H dx x → vw K F H dy y → f dx dy = some t → (∀ v F' H', Made K F H t v F' H' → Q v H') → r x y H Q
def mOp (f : D → D → Option T) (m : M (D × D)) : M T := m.bind fun p => opt (f p.1 p.2)
@[simp] theorem mOp_ap (f : D → D → Option T) (m : M (D × D)) (Γ : Sl) : mOp f m Γ = (m Γ).bind fun p Γ1 => opt (f p.1 p.2) Γ1 := rfl
/-- the end of a rule: something is made -/
theorem made_end {K : PySem.W.Frag} {io : List Nat} {ρ : List (Nat × V)} {W W1 : Wd} {σ : L2.St} {Γ : Sl} {o : Option T} {Q : VK} {p : V → Hp → Prop} (l : Lw b W W1) (r : Rl K io ρ W1 σ Γ)
    (w : wp (opt o Γ) fun d Γ' => ∀ v W' B, Lw b W W' → Rl K io ρ W' σ Γ' → Fre K b W W' d v B → Q v W'.H) : ∃ t, o = some t ∧ ∀ v F' H', Made K W1.F W1.H t v F' H' → Q v H' := by
  cases o with
  | none => exact w.elim
  | some t =>
    refine ⟨t, rfl, fun v F' H' md => ?_⟩
    obtain ⟨l2, r2, B, fr⟩ := made_ok r md
    exact w v ⟨F', H', W1.A⟩ B (l.tr (Lw.of l2)) r2 (fr.back l)
theorem so_op {op : Operator} {f : D → D → Option T} {r : R2} {m : M (D × D)} (ho : ∀ X, OkX G C X → OpR X (binaryOp op) r) (hv : VOp G.K f r) (h : Two G C b a e m) : SO G C b (.BinOp a op e pos) (mOp f m) := ⟨fun z => pu_bind (h.pu z) fun p => pu_opt, fun X ok => by
  obtain ⟨ta, tb, pa, pb, q⟩ := h.go X ok
  refine ⟨tOp r ta tb, pe_op (ho X ok) pa pb, fun ρ W σ Γ Q rl w => q ρ W σ Γ _ rl (wp_mono (wp_bind.mp w) fun p Γ1 _ w1 v u W1 l1 r1 vx vy => ?_)⟩
  obtain ⟨t, e1, k⟩ := made_end (p := fun _ _ => True) l1 r1 w1
  exact hv W1.F W1.H p.1 p.2 v u t Q r1.sub vx vy e1 k⟩
/-- answers by values -/
def VT (K : PySem.W.Frag) (f : D → D → Option Bool) (r : R2) : Prop :=
  ∀ (F H : Hp) (dx dy : D) (x y : V) (c : Bool) (Q : VK), Sub F H → vw K F H dx x → vw K F H dy y → f dx dy = some c → Q (.bl c) H → r x y H Q
def mTe (f : D → D → Option Bool) (m : M (D × D)) : M Bool := m.bind fun p => opt (f p.1 p.2)
@[simp] theorem mTe_ap (f : D → D → Option Bool) (m : M (D × D)) (Γ : Sl) : mTe f m Γ = (m Γ).bind fun p Γ1 => opt (f p.1 p.2) Γ1 := rfl
theorem sb_cmp {op : CmpOp} {f : D → D → Option Bool} {r : R2} {m : M (D × D)} (ho : ∀ X, OkX G C X → OpR X (compareOp op) r) (hv : VT G.K f r) (h : Two G C b a e m) (hm : behindInMarks op e = false) : SB G C b (.Compare a [op] [e] pos) (mTe f m) := ⟨fun z => pu_bind (h.pu z) fun p => pu_opt, fun X ok => by
  obtain ⟨ta, tb, pa, pb, q⟩ := h.go X ok
  refine ⟨tTest (tOp r ta tb), pt_cmpR (ho X ok) pa pb hm, fun ρ W σ Γ Q rl w => q ρ W σ Γ _ rl (wp_mono (wp_bind.mp w) fun p Γ1 _ w1 v u W1 l1 r1 vx vy => ?_)⟩
  cases z : f p.1 p.2 with
  | none => rw [z] at w1; exact w1.elim
  | some c =>
    rw [z] at w1
    exact hv W1.F W1.H p.1 p.2 v u c _ r1.sub vx vy z ⟨c, rfl, w1 W1 l1 r1⟩⟩
/-- a truth as a value -/
def mBl (m : M Bool) : M D := m.bind fun c => M.pure (.bl c)
@[simp] theorem mBl_ap (m : M Bool) (Γ : Sl) : mBl m Γ = (m Γ).bind fun c Γ1 => .ok (.bl c) Γ1 := rfl
theorem se_cmp {op : CmpOp} {f : D → D → Option Bool} {r : R2} {m : M (D × D)} (ho : ∀ X, OkX G C X → OpR X (compareOp op) r) (hv : VT G.K f r) (h : Two G C b a e m) (hm : behindInMarks op e = false) : SE G C b (.Compare a [op] [e] pos) (mBl (mTe f m)) := ⟨fun z => pu_bind (pu_bind (h.pu z) fun p => pu_opt) fun c Γ d Γ' e => by cases e; rfl, fun X ok => by
  obtain ⟨ta, tb, pa, pb, q⟩ := h.go X ok
  refine ⟨tOp r ta tb, pe_cmpR (ho X ok) pa pb hm, fun ρ W σ Γ Q rl w => q ρ W σ Γ _ rl (wp_mono (wp_bind.mp (wp_bind.mp w)) fun p Γ1 _ w1 v u W1 l1 r1 vx vy => ?_)⟩
  cases z : f p.1 p.2 with
  | none => rw [z] at w1; exact w1.elim
  | some c =>
    rw [z] at w1
    exact hv W1.F W1.H p.1 p.2 v u c _ r1.sub vx vy z (w1 (.bl c) W1 l1 r1 rfl)⟩
end
/-! ### the operators of Python, by values -/
def dAdd : D → D → Option T
  | .int i, .int j => some (.sh (.int (i + j)))
  | .str s, .str z => if s.length + z.length ≤ line then some (.sh (.str (s ++ z))) else none
  | .lst xs, .lst ys => if xs.length + ys.length ≤ line then some (.fl (xs ++ ys)) else none
  | .tup xs, .tup ys => if xs.length + ys.length ≤ line then some (.sh (.tup (xs ++ ys))) else none
  | _, _ => none
def rAddU (K : PySem.W.Frag) : R2 := fun x y H Q => (∃ i j, x = .int i ∧ y = .int j ∧ Q (.int (i + j)) H) ∨ (∃ i j, x = .str i ∧ y = .str j ∧ i.length + j.length ≤ sizeLine ∧ Q (.str (i ++ j)) H) ∨ rCat x y H Q ∨ rCatA K x y H Q
theorem ok_addU {G : Gb} {C : Ct} (X : Cx) (ok : OkX G C X) : OpR X (binaryOp .Add) (rAddU G.K) := by
  obtain rfl := ok.g
  exact OpR.or op_add (OpR.or op_add_str (OpR.or op_cat op_catA))
theorem tx_app (s z : Txt) : tx s ++ tx z = tx (s ++ z) := by
  show (⟨s.toArray ++ z.toArray⟩ : Str) = ⟨(s ++ z).toArray⟩
  simp
theorem tx_len (s : Txt) : (tx s).length = s.length := by
  show (s.toArray).size = _
  simp
theorem v_add (K : PySem.W.Frag) : VOp K dAdd (rAddU K) := by
  intro F H dx dy x y t Q s hx hy e k
  unfold dAdd at e
  split at e
  · cases e
    exact .inl ⟨_, _, hx, hy, k _ _ _ (.same rfl)⟩
  · rename_i a b
    split at e
    · rename_i hl
      cases e
      refine .inr (.inl ⟨_, _, hx, hy, by rw [tx_len, tx_len]; exact line_le hl, ?_⟩)
      rw [tx_app]
      exact k _ _ _ (.same rfl)
    · cases e
  · rename_i xs ys
    split at e
    · rename_i hl
      cases e
      obtain ⟨p, vs, e1, a1, r1⟩ := hx
      obtain ⟨q, us, e2, a2, r2⟩ := hy
      refine .inr (.inr (.inl ⟨p, q, vs, us, e1, e2, a1, a2, by rw [← reps_len r1, ← reps_len r2]; exact line_le hl, fun z hz => k _ _ _ (.lst hz (reps_app r1 r2))⟩))
    · cases e
  · rename_i xs ys
    split at e
    · rename_i hl
      cases e
      obtain ⟨p, vs, e1, a1, r1⟩ := hx
      obtain ⟨q, us, e2, a2, r2⟩ := hy
      refine .inr (.inr (.inr ⟨p, q, vs, us, e1, e2, .inl (.inl (s _ _ a1)), .inl (.inl (s _ _ a2)), by rw [← reps_len r1, ← reps_len r2]; exact line_le hl, fun z => ?_, fun z z2 => ?_, fun _ _ w hw => k _ _ _ (.tup hw (reps_app r1 r2))⟩))
      · refine k _ _ _ (.same ⟨q, us, rfl, a2, ?_⟩)
        have h0 : xs = [] := List.length_eq_zero_iff.mp (by rw [reps_len r1, z]; rfl)
        rw [h0]; exact r2
      · refine k _ _ _ (.same ⟨p, vs, rfl, a1, ?_⟩)
        have h0 : ys = [] := List.length_eq_zero_iff.mp (by rw [reps_len r2, z2]; rfl)
        rw [h0, List.append_nil]; exact r1
    · cases e
  · cases e
def dSub : D → D → Option T
  | .int i, .int j => some (.sh (.int (i - j)))
  | _, _ => none
theorem v_sub (K : PySem.W.Frag) : VOp K dSub (rI0 fun i j => .int (i - j)) := by
  intro F H dx dy x y t Q s hx hy e k
  unfold dSub at e
  split at e
  · cases e; exact ⟨_, _, hx, hy, k _ _ _ (.same rfl)⟩
  · cases e
def MulOk (i j : Int) : Prop := i.natAbs.log2 + j.natAbs.log2 < 134217000
theorem mulOk {i j : Int} (h : MulOk i j) : IntMulOk i j := by
  have key : ∀ n : Int, Builtin.Int.intBits n ≤ n.natAbs.log2 + 1 := by
    intro n
    unfold Builtin.Int.intBits
    split <;> omega
  intro hh
  obtain ⟨_, h2⟩ := Bool.and_eq_true_iff.mp hh
  have h3 : ((Builtin.Int.intBits i + Builtin.Int.intBits j : Nat) : Int) > bitsLine := of_decide_eq_true h2
  have h4 : bitsLine = 134217728 := by decide
  have h5 : i.natAbs.log2 + j.natAbs.log2 < 134217000 := h
  have := key i
  have := key j
  omega
instance (i j : Int) : Decidable (MulOk i j) := inferInstanceAs (Decidable (_ < _))
def dMul : D → D → Option T
  | .int i, .int j => if MulOk i j then some (.sh (.int (i * j))) else none
  | .lst xs, .int k => if k < 2 ^ 62 ∧ -(2 ^ 62) < k ∧ xs.length * k.toNat ≤ line then some (.fl (List.replicate k.toNat xs).flatten) else none
  | _, _ => none
def rMulU : R2 := fun x y H Q => rI IntMulOk (fun i j => .int (i * j)) x y H Q ∨ rRep x y H Q
theorem ok_mulU {G : Gb} {C : Ct} (X : Cx) (ok : OkX G C X) : OpR X (binaryOp .Mult) rMulU :=
  OpR.or (opI fun _ _ _ _ _ _ _ hc q => mul_int q hc) op_rep
theorem v_mul (K : PySem.W.Frag) : VOp K dMul rMulU := by
  intro F H dx dy x y t Q s hx hy e k
  unfold dMul at e
  split at e
  · split at e
    · rename_i hm
      cases e
      exact .inl ⟨_, _, hx, hy, mulOk hm, k _ _ _ (.same rfl)⟩
    · cases e
  · split at e
    · rename_i xs n hm
      cases e
      obtain ⟨p, vs, e1, a1, r1⟩ := hx
      refine .inr ⟨p, n, vs, e1, hy, a1, by omega, by omega, by rw [← reps_len r1]; exact line_le hm.2.2, fun z hz => k _ _ _ (.lst hz (reps_rep r1 _))⟩
    · cases e
  · cases e
def dDiv : D → D → Option T
  | .int i, .int j => if j ≠ 0 ∧ j.natAbs.log2 < 9000 then some (.sh (.int (i.fdiv j))) else none
  | _, _ => none
def rDivU : R2 := rI (fun _ j => j ≠ 0 ∧ j.natAbs.log2 < 9000) fun i j => .int (i.fdiv j)
theorem ok_divU {G : Gb} {C : Ct} (X : Cx) (ok : OkX G C X) : OpR X (binaryOp .FloorDiv) rDivU :=
  opI fun _ _ _ _ _ _ _ hc q => floordiv_int hc.1 q (.inl (PyProof.noPylong_of_log2 hc.2))
theorem v_div (K : PySem.W.Frag) : VOp K dDiv rDivU := by
  intro F H dx dy x y t Q s hx hy e k
  unfold dDiv at e
  split at e
  · split at e
    · rename_i hm
      cases e
      exact ⟨_, _, hx, hy, hm, k _ _ _ (.same rfl)⟩
    · cases e
  · cases e
def dMod : D → D → Option T
  | .int i, .int j => if j ≠ 0 then some (.sh (.int (i.fmod j))) else none
  | _, _ => none
theorem v_mod (K : PySem.W.Frag) : VOp K dMod (rI (fun _ j => j ≠ 0) fun i j => .int (i.fmod j)) := by
  intro F H dx dy x y t Q s hx hy e k
  unfold dMod at e
  split at e
  · split at e
    · rename_i hm
      cases e
      exact ⟨_, _, hx, hy, hm, k _ _ _ (.same rfl)⟩
    · cases e
  · cases e
def dPow : D → D → Option T
  | .int i, .int n => if 0 ≤ n ∧ (Builtin.Int.intBits i : Int) * n ≤ 2 ^ 27 then some (.sh (.int (i ^ n.toNat))) else none
  | _, _ => none
def rPowU : R2 := rI (fun i n => 0 ≤ n ∧ (Builtin.Int.intBits i : Int) * n ≤ 2 ^ 27) fun i n => .int (i ^ n.toNat)
theorem ok_powU {G : Gb} {C : Ct} (X : Cx) (ok : OkX G C X) : OpR X (binaryOp .Pow) rPowU :=
  opI fun _ _ _ _ _ _ _ hc q => pow_int hc.1 hc.2 q
theorem v_pow (K : PySem.W.Frag) : VOp K dPow rPowU := by
  intro F H dx dy x y t Q s hx hy e k
  unfold dPow at e
  split at e
  · split at e
    · rename_i hm
      cases e
      exact ⟨_, _, hx, hy, hm, k _ _ _ (.same rfl)⟩
    · cases e
  · cases e
/-! ### comparisons -/
def dEq : D → D → Option Bool
  | .int i, .int j => some (decide (i = j))
  | .str s, .str z => some (decide (s = z))
  | .bl s, .bl z => some (decide (s = z))
  | x, y => match x.py, y.py with
    | some p, some q => if SeqAt.shaped p && SeqAt.shaped q then some (PyData.eqv p q) else none
    | _, _ => none
def rEqU (K : PySem.W.Frag) : R2 := fun x y H Q => rEq x y H Q ∨ rEqD K x y H Q
def rNeU (K : PySem.W.Frag) : R2 := fun x y H Q => rNe x y H Q ∨ rNeD K x y H Q
theorem ok_eqU {G : Gb} {C : Ct} (X : Cx) (ok : OkX G C X) : OpR X (compareOp .Eq) (rEqU G.K) := by
  obtain rfl := ok.g
  exact OpR.or op_eq (op_eqD ok.room.units)
theorem ok_neU {G : Gb} {C : Ct} (X : Cx) (ok : OkX G C X) : OpR X (compareOp .NotEq) (rNeU G.K) := by
  obtain rfl := ok.g
  exact OpR.or op_ne (op_neD ok.room.units)
theorem tx_inj {s z : Txt} : tx s = tx z ↔ s = z := by
  constructor
  · intro h
    have : s.toArray = z.toArray := congrArg Str.cps h
    simpa using congrArg Array.toList this
  · rintro rfl; rfl
theorem v_eq (K : PySem.W.Frag) : VT K dEq (rEqU K) := by
  intro F H dx dy x y c Q s hx hy e k
  unfold dEq at e
  split at e
  · cases e
    obtain rfl : x = _ := hx
    obtain rfl : y = _ := hy
    exact .inl ⟨rfl, by simpa using k⟩
  · cases e
    obtain rfl : x = _ := hx
    obtain rfl : y = _ := hy
    exact .inl ⟨rfl, by simpa [tx_inj] using k⟩
  · cases e
    obtain rfl : x = _ := hx
    obtain rfl : y = _ := hy
    exact .inl ⟨rfl, by simpa using k⟩
  · split at e
    · rename_i p q hp hq
      split at e
      · rename_i hs
        cases e
        obtain ⟨s1, s2⟩ := Bool.and_eq_true_iff.mp hs
        exact .inr ⟨p, q, dp_vw s hx hp, dp_vw s hy hq, s1, s2, k⟩
      · cases e
    · cases e
def dNe (x y : D) : Option Bool := (dEq x y).map not
theorem v_ne (K : PySem.W.Frag) : VT K dNe (rNeU K) := by
  intro F H dx dy x y c Q s hx hy e k
  obtain ⟨c', e', rfl⟩ := Option.map_eq_some_iff.mp e
  clear e
  have e := e'
  clear e'
  unfold dEq at e
  split at e
  · cases e
    obtain rfl : x = _ := hx
    obtain rfl : y = _ := hy
    exact .inl ⟨rfl, by simpa using k⟩
  · cases e
    obtain rfl : x = _ := hx
    obtain rfl : y = _ := hy
    exact .inl ⟨rfl, by simpa [tx_inj] using k⟩
  · cases e
    obtain rfl : x = _ := hx
    obtain rfl : y = _ := hy
    exact .inl ⟨rfl, by simpa using k⟩
  · split at e
    · rename_i p q hp hq
      split at e
      · rename_i hs
        cases e
        obtain ⟨s1, s2⟩ := Bool.and_eq_true_iff.mp hs
        exact .inr ⟨p, q, dp_vw s hx hp, dp_vw s hy hq, s1, s2, k⟩
      · cases e
    · cases e
def dLt : D → D → Option Bool
  | .int i, .int j => some (decide (i < j))
  | .str s, .str z => some (decide (s < z))
  | _, _ => none
def dLe : D → D → Option Bool
  | .int i, .int j => some (decide (i ≤ j))
  | .str s, .str z => some (!decide (z < s))
  | _, _ => none
def dGt (x y : D) : Option Bool := dLt y x
def dGe (x y : D) : Option Bool := dLe y x
def rLtU : R2 := fun x y H Q => rI0 (fun i j => .bl (decide (i < j))) x y H Q ∨ (∃ i j, x = .str i ∧ y = .str j ∧ Q (.bl (decide (i.cps.toList < j.cps.toList))) H)
def rLeU : R2 := fun x y H Q => rI0 (fun i j => .bl (decide (i ≤ j))) x y H Q ∨ (∃ i j, x = .str i ∧ y = .str j ∧ Q (.bl (!decide (j.cps.toList < i.cps.toList))) H)
def rGtU : R2 := fun x y H Q => rI0 (fun i j => .bl (decide (j < i))) x y H Q ∨ (∃ i j, x = .str i ∧ y = .str j ∧ Q (.bl (decide (j.cps.toList < i.cps.toList))) H)
def rGeU : R2 := fun x y H Q => rI0 (fun i j => .bl (decide (j ≤ i))) x y H Q ∨ (∃ i j, x = .str i ∧ y = .str j ∧ Q (.bl (!decide (i.cps.toList < j.cps.toList))) H)
theorem ok_ltU {X : Cx} : OpR X (compareOp .Lt) rLtU := OpR.or op_lt op_lt_str
theorem ok_leU {X : Cx} : OpR X (compareOp .LtE) rLeU := OpR.or op_le op_le_str
theorem ok_gtU {X : Cx} : OpR X (compareOp .Gt) rGtU := OpR.or op_gt op_gt_str
theorem ok_geU {X : Cx} : OpR X (compareOp .GtE) rGeU := OpR.or op_ge op_ge_str
theorem v_lt (K : PySem.W.Frag) : VT K dLt rLtU := by
  intro F H dx dy x y c Q s hx hy e k
  unfold dLt at e
  split at e
  · cases e; exact .inl ⟨_, _, hx, hy, k⟩
  · cases e; exact .inr ⟨_, _, hx, hy, k⟩
  · cases e
theorem v_le (K : PySem.W.Frag) : VT K dLe rLeU := by
  intro F H dx dy x y c Q s hx hy e k
  unfold dLe at e
  split at e
  · cases e; exact .inl ⟨_, _, hx, hy, k⟩
  · cases e; exact .inr ⟨_, _, hx, hy, k⟩
  · cases e
theorem v_gt (K : PySem.W.Frag) : VT K dGt rGtU := by
  intro F H dx dy x y c Q s hx hy e k
  unfold dGt dLt at e
  split at e
  · cases e; exact .inl ⟨_, _, hx, hy, k⟩
  · cases e; exact .inr ⟨_, _, hx, hy, k⟩
  · cases e
theorem v_ge (K : PySem.W.Frag) : VT K dGe rGeU := by
  intro F H dx dy x y c Q s hx hy e k
  unfold dGe dLe at e
  split at e
  · cases e; exact .inl ⟨_, _, hx, hy, k⟩
  · cases e; exact .inr ⟨_, _, hx, hy, k⟩
  · cases e
/-! ### in -/
def D.fv : D → Option V
  | .non => some .non
  | .bl b => some (.bl b)
  | .int i => some (.int i)
  | .str s => some (.str (tx s))
  | _ => none
def D.fvs : List D → Option (List V)
  | [] => some []
  | x :: xs => match x.fv, D.fvs xs with
    | some v, some vs => some (v :: vs)
    | _, _ => none
theorem fv_rep {K : PySem.W.Frag} {F : Hp} {d : D} {v u : V} (h : rep K F d v) (e : d.fv = some u) : v = u ∧ flatV u = true := by
  cases d with
  | non => cases e; exact ⟨h, rfl⟩
  | bl b => cases e; exact ⟨h, rfl⟩
  | int b => cases e; exact ⟨h, rfl⟩
  | str b => cases e; exact ⟨h, rfl⟩
  | _ => cases e
theorem fvs_reps {K : PySem.W.Frag} {F : Hp} : ∀ {ds : List D} {vs us : List V}, reps K F ds vs → D.fvs ds = some us → vs = us ∧ us.all flatV = true
  | [], vs, us, h, e => by cases e; exact ⟨h, rfl⟩
  | d :: ds, vs, us, h, e => by
    obtain ⟨w, ws, e1, a, r⟩ := h
    unfold D.fvs at e
    cases e2 : d.fv with
    | none => rw [e2] at e; cases e
    | some p =>
      cases e3 : D.fvs ds with
      | none => rw [e2, e3] at e; cases e
      | some q =>
        rw [e2, e3] at e
        cases e
        obtain ⟨h1, h2⟩ := fv_rep a e2
        obtain ⟨h3, h4⟩ := fvs_reps r e3
        rw [e1, h1, h3]
        exact ⟨rfl, by rw [List.all_cons, h2, h4]; rfl⟩
def dIn (x y : D) : Option Bool := match x, y with
  | .str [c], .str s => some (decide (c ∈ s))
  | x, y => match x.fv, y.seq?.bind D.fvs with
    | some v, some vs => some (inV v vs)
    | _, _ => none
def dNotIn (x y : D) : Option Bool := (dIn x y).map not
def rInU (K : PySem.W.Frag) : R2 := fun x y H Q => (∃ (c : Nat) (z : Str), x = .str ⟨#[c]⟩ ∧ y = .str z ∧ Q (.bl (decide (c ∈ z.cps.toList))) H) ∨ rIn K false x y H Q
def rNotInU (K : PySem.W.Frag) : R2 := fun x y H Q => (∃ (c : Nat) (z : Str), x = .str ⟨#[c]⟩ ∧ y = .str z ∧ Q (.bl (!decide (c ∈ z.cps.toList))) H) ∨ rIn K true x y H Q
theorem ok_inU {G : Gb} {C : Ct} (X : Cx) (ok : OkX G C X) : OpR X (compareOp .In) (rInU G.K) := by
  obtain rfl := ok.g
  exact OpR.or op_in_sign op_in_seq
theorem ok_notInU {G : Gb} {C : Ct} (X : Cx) (ok : OkX G C X) : OpR X (compareOp .NotIn) (rNotInU G.K) := by
  obtain rfl := ok.g
  exact OpR.or op_notIn_sign op_notIn_seq
theorem rep_fv_vw {K : PySem.W.Frag} {F H : Hp} {d : D} {v u : V} (h : vw K F H d v) (e : d.fv = some u) : v = u ∧ flatV u = true := by
  cases d with
  | non => cases e; exact ⟨h, rfl⟩
  | bl b => cases e; exact ⟨h, rfl⟩
  | int b => cases e; exact ⟨h, rfl⟩
  | str b => cases e; exact ⟨h, rfl⟩
  | _ => cases e
theorem v_in (K : PySem.W.Frag) : VT K dIn (rInU K) := by
  intro F H dx dy x y c Q s hx hy e k
  unfold dIn at e
  split at e
  · cases e
    exact .inl ⟨_, _, hx, hy, k⟩
  · split at e
    · rename_i v vs h1 h2
      cases e
      obtain ⟨xs, h3, h4⟩ := Option.bind_eq_some_iff.mp h2
      obtain ⟨e1, f1⟩ := rep_fv_vw hx h1
      obtain ⟨p, us, e2, sq, r⟩ := seq_vw s hy h3
      obtain ⟨e3, f2⟩ := fvs_reps r h4
      subst e1; subst e3
      exact .inr ⟨p, us, e2, sq, f1, f2, k⟩
    · cases e
theorem v_notIn (K : PySem.W.Frag) : VT K dNotIn (rNotInU K) := by
  intro F H dx dy x y c Q s hx hy e k
  obtain ⟨c', e', rfl⟩ := Option.map_eq_some_iff.mp e
  clear e
  have e := e'
  clear e'
  unfold dIn at e
  split at e
  · cases e
    exact .inl ⟨_, _, hx, hy, k⟩
  · split at e
    · rename_i v vs h1 h2
      cases e
      obtain ⟨xs, h3, h4⟩ := Option.bind_eq_some_iff.mp h2
      obtain ⟨e1, f1⟩ := rep_fv_vw hx h1
      obtain ⟨p, us, e2, sq, r⟩ := seq_vw s hy h3
      obtain ⟨e3, f2⟩ := fvs_reps r h4
      subst e1; subst e3
      exact .inr ⟨p, us, e2, sq, f1, f2, k⟩
    · cases e
/-! ### is -/
def D.isN : D → Option Bool
  | .non => some true
  | .frz _ => none
  | _ => some false
theorem isN_vw {K : PySem.W.Frag} {F H : Hp} {d : D} {v : V} {c : Bool} (h : vw K F H d v) (e : d.isN = some c) : decide (v = .non) = c := by
  cases d with
  | non => cases e; rw [show v = .non from h]; rfl
  | bl b => cases e; rw [show v = .bl b from h]; rfl
  | int b => cases e; rw [show v = .int b from h]; rfl
  | str b => cases e; rw [show v = .str (tx b) from h]; rfl
  | frz xs => cases e
  | tup xs => cases e; obtain ⟨p, _, h, _⟩ := h; rw [h]; rfl
  | lst xs => cases e; obtain ⟨p, _, h, _⟩ := h; rw [h]; rfl
  | ins c xs => cases e; obtain ⟨p, _, _, h, _⟩ := h; rw [h]; rfl
  | dK xs => cases e; obtain ⟨p, _, h, _⟩ := h; rw [h]; rfl
  | dT xs => cases e; obtain ⟨p, _, h, _⟩ := h; rw [h]; rfl
def dIs : D → D → Option Bool
  | .bl a, .bl b => some (decide (a = b))
  | x, .non => x.isN
  | _, _ => none
def dIsNot (x y : D) : Option Bool := (dIs x y).map not
def rIsU : R2 := fun x y H Q => (y = .non ∧ Q (.bl (decide (x = .non))) H) ∨ rIsB x y H Q
def rIsNotU : R2 := fun x y H Q => (y = .non ∧ Q (.bl (!decide (x = .non))) H) ∨ rNotB x y H Q
theorem ok_isU {X : Cx} : OpR X (compareOp .Is) rIsU := OpR.or op_isN op_isBl
theorem ok_isNotU {X : Cx} : OpR X (compareOp .IsNot) rIsNotU := OpR.or op_notN op_notBl
theorem v_is (K : PySem.W.Frag) : VT K dIs rIsU := by
  intro F H dx dy x y c Q s hx hy e k
  unfold dIs at e
  split at e
  · cases e; exact .inr ⟨_, _, hx, hy, k⟩
  · exact .inl ⟨hy, by rw [isN_vw hx e]; exact k⟩
  · cases e
theorem v_isNot (K : PySem.W.Frag) : VT K dIsNot rIsNotU := by
  intro F H dx dy x y c Q s hx hy e k
  obtain ⟨c', e', rfl⟩ := Option.map_eq_some_iff.mp e
  clear e
  have e := e'
  clear e'
  unfold dIs at e
  split at e
  · cases e; exact .inr ⟨_, _, hx, hy, k⟩
  · exact .inl ⟨hy, by rw [isN_vw hx e]; exact k⟩
  · cases e
end PM
set_option Elab.async false
set_option linter.all false
set_option maxRecDepth 100000
set_option maxHeartbeats 2000000
set_option autoImplicit false
namespace PM
open PySem PySem.Spec PyProof.Rows L2
section
variable {G : Gb} {C : Ct} {b : Bool} {a e : Expr} {pos : Pos} {rest : List Expr}
/-! ### truth -/
def D.tru : D → Option Bool
  | .non => some false
  | .bl b => some b
  | .int i => some (i != 0)
  | .str s => if s.length ≤ line then some (!s.isEmpty) else none
  | .lst xs => some (!xs.isEmpty)
  | .tup xs => some (!xs.isEmpty)
  | .frz xs => some (!xs.isEmpty)
  | .dK xs => some (!xs.isEmpty)
  | _ => none
theorem reps_isEmpty {K : PySem.W.Frag} {F : Hp} {ds : List D} {vs : List V} (h : reps K F ds vs) : ds.isEmpty = vs.isEmpty := by
  cases ds with
  | nil => rw [show vs = [] from h]; rfl
  | cons d ds => obtain ⟨w, ws, e, _⟩ := h; rw [e]; rfl
theorem repk_isEmpty {K : PySem.W.Frag} {F : Hp} {ds : List (Key × D)} {vs : List (Key × V)} (h : repk K F ds vs) : ds.isEmpty = vs.isEmpty := by
  cases ds with
  | nil => rw [show vs = [] from h]; rfl
  | cons d ds => obtain ⟨w, ws, e, _⟩ := h; rw [e]; rfl
theorem tru_vw {K : PySem.W.Frag} {F H : Hp} (s : Sub F H) {d : D} {v : V} {c : Bool} (h : vw K F H d v) (e : d.tru = some c) : TruV K v H c := by
  cases d with
  | non => cases e; rw [show v = .non from h]; rfl
  | bl b => cases e; rw [show v = .bl c from h]; rfl
  | int b => cases e; rw [show v = .int b from h]; rfl
  | str z =>
    rw [show v = .str (tx z) from h]
    have e : (if z.length ≤ line then some (!z.isEmpty) else none) = some c := e
    split at e
    · rename_i hl
      cases e
      refine ⟨by rw [tx_len]; exact line_le hl, ?_⟩
      rw [tx_len]
      cases z <;> rfl
    · cases e
  | lst xs => cases e; obtain ⟨p, vs, e1, a, r⟩ := h; rw [e1]; exact .inl ⟨vs, .inl (.inl a), by rw [reps_isEmpty r]⟩
  | frz xs => cases e; obtain ⟨p, vs, e1, a, r⟩ := h; rw [e1]; exact .inl ⟨vs, sql_sub s a, by rw [reps_isEmpty r]⟩
  | tup xs => cases e; obtain ⟨p, vs, e1, a, r⟩ := h; rw [e1]; exact .inr (.inl ⟨vs, .inl (.inl (s _ _ a)), by rw [reps_isEmpty r]⟩)
  | dK xs => cases e; obtain ⟨p, vs, e1, a, r⟩ := h; rw [e1]; exact .inr (.inr ⟨vs, a, by rw [repk_isEmpty r]⟩)
  | dT xs => cases e
  | ins _ _ => cases e
def mTr (m : M D) : M Bool := m.bind fun d => opt d.tru
@[simp] theorem mTr_ap (m : M D) (Γ : Sl) : mTr m Γ = (m Γ).bind fun d Γ1 => opt d.tru Γ1 := rfl
theorem sb_tru {m : M D} (h : OP G C b e m) (he : ∀ env whole, isTrue e env whole = (do let v ← whole; standAt e.pos; holding [v] (truthy v))) : SB G C b e (mTr m) := ⟨fun z => pu_bind (h.pu z) fun p => pu_opt, fun X ok => by
  obtain ⟨t, pe, q⟩ := h.go X ok
  refine ⟨_, pt_truth pe (he X.env), fun ρ W σ Γ Q rl w => q ρ W σ Γ _ rl (wp_mono (wp_bind.mp w) fun d Γ1 _ w1 v W1 l1 r1 vx => ?_)⟩
  cases z : d.tru with
  | none => rw [z] at w1; exact w1.elim
  | some c =>
    rw [z] at w1
    have hk := ok.g
    subst hk
    exact ⟨c, tru_vw r1.sub vx z, w1 W1 l1 r1⟩⟩
/-! ### and, or, not: tests -/
structure SW (G : Gb) (C : Ct) (b : Bool) (e : Expr) (m : M Bool) : Prop where
  pu : b = true → ∀ Γ d Γ', m Γ = .ok d Γ' → Γ' = Γ
  go : ∀ X, OkX G C X → ∃ t, PW X e t ∧ ∀ ρ W σ Γ Q, Rl G.K C.io ρ W σ Γ → wp (m Γ) (fun d Γ' => ∀ W', Lw b W W' → Rl G.K C.io ρ W' σ Γ' → Q d W'.H) → t σ W.H Q
theorem SW.sb {m : M Bool} (h : SW G C b e m) : SB G C b e m := ⟨h.pu, fun X ok => by
  obtain ⟨t, pe, q⟩ := h.go X ok
  exact ⟨t, pe.pt, q⟩⟩
theorem sw_and1 {m : M Bool} (h : SB G C b a m) : SW G C b (.BoolOp .And [a] pos) m := ⟨h.pu, fun X ok => by
  obtain ⟨t, pe, q⟩ := h.go X ok
  exact ⟨t, pw_and1 pe, q⟩⟩
theorem sw_or1 {m : M Bool} (h : SB G C b a m) : SW G C b (.BoolOp .Or [a] pos) m := ⟨h.pu, fun X ok => by
  obtain ⟨t, pe, q⟩ := h.go X ok
  exact ⟨t, pw_or1 pe, q⟩⟩
def mAnd (m n : M Bool) : M Bool := m.bind fun c => if c = true then n else M.pure false
def mOr (m n : M Bool) : M Bool := m.bind fun c => if c = true then M.pure true else n
def mNot (m : M Bool) : M Bool := m.bind fun c => M.pure (!c)
@[simp] theorem mAnd_ap (m n : M Bool) (Γ : Sl) : mAnd m n Γ = (m Γ).bind fun c Γ1 => (if c = true then n else M.pure false) Γ1 := rfl
@[simp] theorem mOr_ap (m n : M Bool) (Γ : Sl) : mOr m n Γ = (m Γ).bind fun c Γ1 => (if c = true then M.pure true else n) Γ1 := rfl
@[simp] theorem mNot_ap (m : M Bool) (Γ : Sl) : mNot m Γ = (m Γ).bind fun c Γ1 => .ok (!c) Γ1 := rfl
theorem pu_pure {α : Type} {x : α} : ∀ Γ d Γ', M.pure x Γ = .ok d Γ' → Γ' = Γ := fun Γ d Γ' e => by cases e; rfl
theorem pu_ite {α : Type} {c : Prop} [Decidable c] {m n : M α} (h : ∀ Γ d Γ', m Γ = .ok d Γ' → Γ' = Γ) (k : ∀ Γ d Γ', n Γ = .ok d Γ' → Γ' = Γ) : ∀ Γ d Γ', (if c then m else n) Γ = .ok d Γ' → Γ' = Γ := by
  intro Γ d Γ' e
  by_cases q : c
  · rw [if_pos q] at e; exact h Γ d Γ' e
  · rw [if_neg q] at e; exact k Γ d Γ' e
theorem sw_and {m n : M Bool} (h : SB G C b a m) (k : SW G C b (.BoolOp .And (e :: rest) pos) n) : SW G C b (.BoolOp .And (a :: e :: rest) pos) (mAnd m n) := ⟨fun z => pu_bind (h.pu z) fun c => pu_ite (k.pu z) pu_pure, fun X ok => by
  obtain ⟨t, pe, q⟩ := h.go X ok
  obtain ⟨u, pu, qu⟩ := k.go X ok
  refine ⟨_, pw_and pe pu, fun ρ W σ Γ Q rl w => q ρ W σ Γ _ rl (wp_mono (wp_bind.mp w) fun c Γ1 _ w1 W1 l1 r1 => ?_)⟩
  cases c with
  | true => exact iteT (qu ρ W1 σ Γ1 Q r1 (wp_mono w1 fun d Γ2 _ k2 W2 l2 r2 => k2 W2 (l1.tr l2) r2))
  | false => exact iteF (w1 W1 l1 r1)⟩
theorem sw_or {m n : M Bool} (h : SB G C b a m) (k : SW G C b (.BoolOp .Or (e :: rest) pos) n) : SW G C b (.BoolOp .Or (a :: e :: rest) pos) (mOr m n) := ⟨fun z => pu_bind (h.pu z) fun c => pu_ite pu_pure (k.pu z), fun X ok => by
  obtain ⟨t, pe, q⟩ := h.go X ok
  obtain ⟨u, pu, qu⟩ := k.go X ok
  refine ⟨_, pw_or pe pu, fun ρ W σ Γ Q rl w => q ρ W σ Γ _ rl (wp_mono (wp_bind.mp w) fun c Γ1 _ w1 W1 l1 r1 => ?_)⟩
  cases c with
  | true => exact iteT (w1 W1 l1 r1)
  | false => exact iteF (qu ρ W1 σ Γ1 Q r1 (wp_mono w1 fun d Γ2 _ k2 W2 l2 r2 => k2 W2 (l1.tr l2) r2))⟩
theorem sb_not {m : M Bool} (h : SB G C b a m) : SB G C b (.UnaryOp .Not a pos) (mNot m) := ⟨fun z => pu_bind (h.pu z) fun c => pu_pure, fun X ok => by
  obtain ⟨t, pe, q⟩ := h.go X ok
  exact ⟨_, pt_not pe, fun ρ W σ Γ Q rl w => q ρ W σ Γ _ rl (wp_mono (wp_bind.mp w) fun c Γ1 _ w1 => w1)⟩⟩
/-! ### and, or, not: values that are bools -/
def dBl : D → Option Bool
  | .bl c => some c
  | _ => none
@[simp] theorem dBl_bl (c : Bool) : dBl (.bl c) = some c := rfl
def mAndV (m n : M D) : M D := m.bind fun x => (opt (dBl x)).bind fun c => if c = true then n else M.pure (.bl false)
def mOrV (m n : M D) : M D := m.bind fun x => (opt (dBl x)).bind fun c => if c = true then M.pure (.bl true) else n
def mNotV (m : M D) : M D := m.bind fun x => (opt (dBl x)).bind fun c => M.pure (.bl !c)
@[simp] theorem mAndV_ap (m n : M D) (Γ : Sl) : mAndV m n Γ = (m Γ).bind fun x Γ1 => (opt (dBl x) Γ1).bind fun c Γ2 => (if c = true then n else M.pure (.bl false)) Γ2 := rfl
@[simp] theorem mOrV_ap (m n : M D) (Γ : Sl) : mOrV m n Γ = (m Γ).bind fun x Γ1 => (opt (dBl x) Γ1).bind fun c Γ2 => (if c = true then M.pure (.bl true) else n) Γ2 := rfl
@[simp] theorem mNotV_ap (m : M D) (Γ : Sl) : mNotV m Γ = (m Γ).bind fun x Γ1 => (opt (dBl x) Γ1).bind fun c Γ2 => .ok (.bl !c) Γ2 := rfl
theorem se_one {op : BoolOp} {m : M D} (h : SE G C b a m) : SE G C b (.BoolOp op [a] pos) m := ⟨h.pu, fun X ok => by
  obtain ⟨t, pe, q⟩ := h.go X ok
  exact ⟨t, pe_one pe, q⟩⟩
theorem dBl_some {x : D} {c : Bool} (h : dBl x = some c) : x = .bl c := by
  cases x <;> cases h; rfl
theorem se_and {m n : M D} (h : SE G C b a m) (k : SE G C b (.BoolOp .And (e :: rest) pos) n) : SE G C b (.BoolOp .And (a :: e :: rest) pos) (mAndV m n) := ⟨fun z => pu_bind (h.pu z) fun c => pu_bind pu_opt fun c => pu_ite (k.pu z) pu_pure, fun X ok => by
  obtain ⟨t, pe, q⟩ := h.go X ok
  obtain ⟨u, pu, qu⟩ := k.go X ok
  refine ⟨_, pe_and pe pu, fun ρ W σ Γ Q rl w => q ρ W σ Γ _ rl (wp_mono (wp_bind.mp w) fun x Γ1 _ w1 v W1 l1 r1 vx => ?_)⟩
  cases z : dBl x with
  | none => rw [M.bind_ap, z] at w1; exact w1.elim
  | some c =>
    rw [M.bind_ap, z] at w1
    obtain rfl := dBl_some z
    refine ⟨c, vx, ?_⟩
    cases c with
    | true => exact iteT (qu ρ W1 σ Γ1 Q r1 (wp_mono w1 fun d Γ2 _ k2 v W2 l2 r2 => k2 v W2 (l1.tr l2) r2))
    | false => exact iteF (w1 (.bl false) W1 l1 r1 rfl)⟩
theorem se_or {m n : M D} (h : SE G C b a m) (k : SE G C b (.BoolOp .Or (e :: rest) pos) n) : SE G C b (.BoolOp .Or (a :: e :: rest) pos) (mOrV m n) := ⟨fun z => pu_bind (h.pu z) fun c => pu_bind pu_opt fun c => pu_ite pu_pure (k.pu z), fun X ok => by
  obtain ⟨t, pe, q⟩ := h.go X ok
  obtain ⟨u, pu, qu⟩ := k.go X ok
  refine ⟨_, pe_or pe pu, fun ρ W σ Γ Q rl w => q ρ W σ Γ _ rl (wp_mono (wp_bind.mp w) fun x Γ1 _ w1 v W1 l1 r1 vx => ?_)⟩
  cases z : dBl x with
  | none => rw [M.bind_ap, z] at w1; exact w1.elim
  | some c =>
    rw [M.bind_ap, z] at w1
    obtain rfl := dBl_some z
    refine ⟨c, vx, ?_⟩
    cases c with
    | true => exact iteT (w1 (.bl true) W1 l1 r1 rfl)
    | false => exact iteF (qu ρ W1 σ Γ1 Q r1 (wp_mono w1 fun d Γ2 _ k2 v W2 l2 r2 => k2 v W2 (l1.tr l2) r2))⟩
theorem se_not {m : M D} (h : SE G C b a m) : SE G C b (.UnaryOp .Not a pos) (mNotV m) := ⟨fun z => pu_bind (h.pu z) fun c => pu_bind pu_opt fun c => pu_pure, fun X ok => by
  obtain ⟨t, pe, q⟩ := h.go X ok
  refine ⟨_, pe_not pe, fun ρ W σ Γ Q rl w => q ρ W σ Γ _ rl (wp_mono (wp_bind.mp w) fun x Γ1 _ w1 v W1 l1 r1 vx => ?_)⟩
  cases z : dBl x with
  | none => rw [M.bind_ap, z] at w1; exact w1.elim
  | some c =>
    rw [M.bind_ap, z] at w1
    obtain rfl := dBl_some z
    exact ⟨c, vx, w1 (.bl !c) W1 l1 r1 rfl⟩⟩
/-! ### a if t else b -/
def mIf {α : Type} (c : M Bool) (m n : M α) : M α := c.bind fun z => if z = true then m else n
@[simp] theorem mIf_ap {α : Type} (c : M Bool) (m n : M α) (Γ : Sl) : mIf c m n Γ = (c Γ).bind fun z Γ1 => (if z = true then m else n) Γ1 := rfl
theorem se_if {c : Expr} {mc : M Bool} {m n : M D} (hc : SB G C b c mc) (h : SE G C b a m) (k : SE G C b e n) : SE G C b (.IfExp c a e pos) (mIf mc m n) := ⟨fun z => pu_bind (hc.pu z) fun c => pu_ite (h.pu z) (k.pu z), fun X ok => by
  obtain ⟨tc, pc, qc⟩ := hc.go X ok
  obtain ⟨t, pe, q⟩ := h.go X ok
  obtain ⟨u, pu, qu⟩ := k.go X ok
  refine ⟨_, pe_ifExp pc pe pu, fun ρ W σ Γ Q rl w => qc ρ W σ Γ _ rl (wp_mono (wp_bind.mp w) fun z Γ1 _ w1 W1 l1 r1 => ?_)⟩
  cases z with
  | true => exact iteT (q ρ W1 σ Γ1 Q r1 (wp_mono w1 fun d Γ2 _ k2 v W2 l2 r2 => k2 v W2 (l1.tr l2) r2))
  | false => exact iteF (qu ρ W1 σ Γ1 Q r1 (wp_mono w1 fun d Γ2 _ k2 v W2 l2 r2 => k2 v W2 (l1.tr l2) r2))⟩
theorem Fre.pre {K : PySem.W.Frag} {W W1 W2 : Wd} {t : T} {v : V} {B : Addr → Prop} (l : Lw b W W1) (f : Fre K b W1 W2 t v B) : Fre K b W W2 t v B where
  own := f.own
  dis := f.dis
  nof := f.nof
  alc := f.alc
  ft := fun a h => by
    rcases f.ft a h with ⟨j, hj⟩ | q
    · exact l.le.ft j a hj
    · exact l.le.back q
  nw := fun e a h => by
    subst e
    cases q : W.H a with
    | none => rfl
    | some o =>
      have l' : Le0 W W1 := l
      have := f.nw rfl a h
      rw [l'.fr _ _ q] at this; cases this
theorem so_if {c : Expr} {mc : M Bool} {m n : M T} (hc : SB G C b c mc) (h : SO G C b a m) (k : SO G C b e n) : SO G C b (.IfExp c a e pos) (mIf mc m n) := ⟨fun z => pu_bind (hc.pu z) fun c => pu_ite (h.pu z) (k.pu z), fun X ok => by
  obtain ⟨tc, pc, qc⟩ := hc.go X ok
  obtain ⟨t, pe, q⟩ := h.go X ok
  obtain ⟨u, pu, qu⟩ := k.go X ok
  refine ⟨_, pe_ifExp pc pe pu, fun ρ W σ Γ Q rl w => qc ρ W σ Γ _ rl (wp_mono (wp_bind.mp w) fun z Γ1 _ w1 W1 l1 r1 => ?_)⟩
  cases z with
  | true => exact iteT (q ρ W1 σ Γ1 Q r1 (wp_mono w1 fun d Γ2 _ k2 v W2 B l2 r2 f => k2 v W2 B (l1.tr l2) r2 (f.pre l1)))
  | false => exact iteF (qu ρ W1 σ Γ1 Q r1 (wp_mono w1 fun d Γ2 _ k2 v W2 B l2 r2 f => k2 v W2 B (l1.tr l2) r2 (f.pre l1)))⟩
/-! ### arguments -/
abbrev Pln (e : Expr) : Prop := ∀ env es, starEach (e :: es) env = (false, eval e env) :: starEach es env
theorem sa_nil : SA G C b [] (M.pure []) := ⟨fun _ => pu_pure, fun X ok => ⟨tNil, pa_nil, fun ρ W σ Γ Q rl w => w [] W (Lw.refl b W) rl rfl⟩⟩
def mCons (m : M D) (n : M (List D)) : M (List D) := m.bind fun d => n.bind fun ds => M.pure (d :: ds)
@[simp] theorem mCons_ap (m : M D) (n : M (List D)) (Γ : Sl) : mCons m n Γ = (m Γ).bind fun d Γ1 => (n Γ1).bind fun ds Γ2 => .ok (d :: ds) Γ2 := rfl
theorem sa_cons {es : List Expr} {m : M D} {n : M (List D)} (h : SE G C b e m) (k : SA G C b es n) (hp : Pln e) : SA G C b (e :: es) (mCons m n) := ⟨fun z => pu_bind (h.pu z) fun c => pu_bind (k.pu z) fun c => pu_pure, fun X ok => by
  obtain ⟨t, pe, q⟩ := h.go X ok
  obtain ⟨u, pu, qu⟩ := k.go X ok
  refine ⟨_, pa_cons pe pu (hp X.env es), fun ρ W σ Γ Q rl w => q ρ W σ Γ _ rl (wp_mono (wp_bind.mp w) fun d Γ1 _ w1 v W1 l1 r1 vx => ?_)⟩
  refine qu ρ W1 σ Γ1 _ r1 (wp_mono (wp_bind.mp w1) fun ds Γ2 _ k2 vs W2 l2 r2 rs => ?_)
  exact k2 (v :: vs) W2 (l1.tr l2) r2 (reps_cons (rep_sub l2.le.ext _ _ vx) rs)⟩
/-! ### displays -/
def mTup (m : M (List D)) : M T := m.bind fun ds => opt (if ds.length ≤ line then some (T.sh (.tup ds)) else none)
def mLst (m : M (List D)) : M T := m.bind fun ds => opt (if ds.length ≤ line then some (T.fl ds) else none)
@[simp] theorem mTup_ap (m : M (List D)) (Γ : Sl) : mTup m Γ = (m Γ).bind fun ds Γ1 => opt (if ds.length ≤ line then some (T.sh (.tup ds)) else none) Γ1 := rfl
@[simp] theorem mLst_ap (m : M (List D)) (Γ : Sl) : mLst m Γ = (m Γ).bind fun ds Γ1 => opt (if ds.length ≤ line then some (T.fl ds) else none) Γ1 := rfl
theorem so_tup {es : List Expr} {m : M (List D)} {k : Nat} (h : SA G C b es m) : SO G C b (.Tuple es k pos) (mTup m) := ⟨fun z => pu_bind (h.pu z) fun c => pu_opt, fun X ok => by
  obtain ⟨t, pe, q⟩ := h.go X ok
  refine ⟨_, pe_tup pe, fun ρ W σ Γ Q rl w => q ρ W σ Γ _ rl (wp_mono (wp_bind.mp w) fun ds Γ1 _ w1 vs W1 l1 r1 rs => ?_)⟩
  obtain ⟨t, e1, k⟩ := made_end (p := fun _ _ => True) l1 r1 w1
  split at e1
  · rename_i hl
    cases e1
    exact ⟨by rw [← reps_len rs]; exact line_le hl, fun p hp => k _ _ _ (.tup hp rs)⟩
  · cases e1⟩
theorem so_lst {es : List Expr} {m : M (List D)} (h : SA G C b es m) : SO G C b (.List es pos) (mLst m) := ⟨fun z => pu_bind (h.pu z) fun c => pu_opt, fun X ok => by
  obtain ⟨t, pe, q⟩ := h.go X ok
  refine ⟨_, pe_lst pe, fun ρ W σ Γ Q rl w => q ρ W σ Γ _ rl (wp_mono (wp_bind.mp w) fun ds Γ1 _ w1 vs W1 l1 r1 rs => ?_)⟩
  obtain ⟨t, e1, k⟩ := made_end (p := fun _ _ => True) l1 r1 w1
  split at e1
  · rename_i hl
    cases e1
    exact ⟨by rw [← reps_len rs]; exact line_le hl, fun p hp => k _ _ _ (.lst hp rs)⟩
  · cases e1⟩
/-! ### one operand -/
def VUn (K : PySem.W.Frag) (f : D → Option T) (r : V → Hp → VK → Prop) : Prop :=
  ∀ (F H : Hp) (d : D) (x : V) (t : T) (Q : VK), Sub F H → vw K F H d x → f d = some t → (∀ v F' H', Made K F H t v F' H' → Q v H') → r x H Q
def mUn (f : D → Option T) (m : M D) : M T := m.bind fun d => opt (f d)
@[simp] theorem mUn_ap (f : D → Option T) (m : M D) (Γ : Sl) : mUn f m Γ = (m Γ).bind fun d Γ1 => opt (f d) Γ1 := rfl
theorem so_of {f : D → Option T} {r : V → Hp → VK → Prop} {m : M D} {ee : Expr} (h : OP G C b e m) (hv : VUn G.K f r) (hp : ∀ X t, OkX G C X → PE X e t → PE X ee (fun σ H Q => t σ H fun x H1 => r x H1 Q)) : SO G C b ee (mUn f m) := ⟨fun z => pu_bind (h.pu z) fun c => pu_opt, fun X ok => by
  obtain ⟨t, pe, q⟩ := h.go X ok
  refine ⟨_, hp X t ok pe, fun ρ W σ Γ Q rl w => q ρ W σ Γ _ rl (wp_mono (wp_bind.mp w) fun d Γ1 _ w1 v W1 l1 r1 vx => ?_)⟩
  obtain ⟨t, e1, k⟩ := made_end (p := fun _ _ => True) l1 r1 w1
  exact hv W1.F W1.H d v t Q r1.sub vx e1 k⟩
def dNeg : D → Option T
  | .int i => some (.sh (.int (-i)))
  | _ => none
theorem so_neg {m : M D} (h : OP G C b e m) : SO G C b (.UnaryOp .USub e pos) (mUn dNeg m) :=
  so_of (r := rU fun i => .int (-i)) h (fun F H d x t Q s hx e k => by
    unfold dNeg at e
    split at e
    · cases e; exact ⟨_, hx, k _ _ _ (.same rfl)⟩
    · cases e) fun X t ok pe => pe_un un_neg pe
/-! ### subscripts -/
def dIx : D → D → Option T
  | .lst xs, .int i => (atI xs i).map .sh
  | .frz xs, .int i => (atI xs i).map .sh
  | .tup xs, .int i => (atI xs i).map .sh
  | .str s, .int i => if s.length ≤ line then (atI s i).map fun c => .sh (.str [c]) else none
  | _, _ => none
theorem atI_reps {K : PySem.W.Frag} {F : Hp} {ds : List D} {vs : List V} {i : Int} {d : D} (h : reps K F ds vs) (e : atI ds i = some d) : ∃ v, atI vs i = some v ∧ rep K F d v := by
  unfold atI at e ⊢
  rw [← reps_len h]
  cases q : ixN ds.length i with
  | none => rw [q] at e; cases e
  | some j => rw [q] at e; exact reps_get h e
theorem v_ix (K : PySem.W.Frag) : VOp K dIx (rIx K) := by
  intro F H dx dy x y t Q s hx hy e k
  unfold dIx at e
  split at e
  · obtain ⟨d, e1, rfl⟩ := Option.map_eq_some_iff.mp e
    obtain ⟨p, vs, e2, a, r⟩ := hx
    obtain ⟨v, e3, rp⟩ := atI_reps r e1
    exact .inl ⟨p, vs, _, v, e2, hy, .inl (.inl a), e3, k _ _ _ (.same rp)⟩
  · obtain ⟨d, e1, rfl⟩ := Option.map_eq_some_iff.mp e
    obtain ⟨p, vs, e2, a, r⟩ := hx
    obtain ⟨v, e3, rp⟩ := atI_reps r e1
    exact .inl ⟨p, vs, _, v, e2, hy, sql_sub s a, e3, k _ _ _ (.same rp)⟩
  · obtain ⟨d, e1, rfl⟩ := Option.map_eq_some_iff.mp e
    obtain ⟨p, vs, e2, a, r⟩ := hx
    obtain ⟨v, e3, rp⟩ := atI_reps r e1
    exact .inr (.inl ⟨p, vs, _, v, e2, hy, .inl (.inl (s _ _ a)), e3, k _ _ _ (.same rp)⟩)
  · split at e
    · rename_i hl
      obtain ⟨c, e1, rfl⟩ := Option.map_eq_some_iff.mp e
      exact .inr (.inr ⟨_, _, c, hx, hy, by rw [tx_len]; exact line_le hl, by simpa [tx] using e1, k _ _ _ (.same rfl)⟩)
    · cases e
  · cases e
theorem so_ix {m : M (D × D)} (h : Two G C b a e m) (hs : PlainIx e) : SO G C b (.Subscript a e pos) (mOp dIx m) := ⟨fun z => pu_bind (h.pu z) fun p => pu_opt, fun X ok => by
  obtain ⟨ta, tb, pa, pb, q⟩ := h.go X ok
  have hk := ok.g
  subst hk
  refine ⟨tOp (rIx X.K) ta tb, pe_ix ix_seq pa pb hs, fun ρ W σ Γ Q rl w => q ρ W σ Γ _ rl (wp_mono (wp_bind.mp w) fun p Γ1 _ w1 v u W1 l1 r1 vx vy => ?_)⟩
  obtain ⟨t, e1, k⟩ := made_end (p := fun _ _ => True) l1 r1 w1
  exact v_ix X.K W1.F W1.H p.1 p.2 v u t Q r1.sub vx vy e1 k⟩
/-! ### slices -/
def cutD {α : Type} (xs : List α) (lo hi : Option Int) : List α := (xs.drop (HT.sIx xs.length 0 lo)).take (HT.sIx xs.length xs.length hi - HT.sIx xs.length 0 lo)
structure SP (G : Gb) (C : Ct) (e : Option Expr) (m : Sl → Option (Option Int)) : Prop where
  go : ∀ X, OkX G C X → ∃ t, PO X e t ∧ ∀ ρ W σ Γ Q, Rl G.K C.io ρ W σ Γ → (∃ o, m Γ = some o ∧ ∀ W', Le0 W W' → Rl G.K C.io ρ W' σ Γ → Q o W'.H) → t σ W.H Q
theorem sp_no : SP G C none (fun _ => some none) := ⟨fun X ok => ⟨_, po_none, fun ρ W σ Γ Q rl ⟨o, e, k⟩ => by cases e; exact k W (Le0.refl W) rl⟩⟩
def mPart (m : M D) : Sl → Option (Option Int) := fun Γ => match m Γ with
  | .ok (.int i) _ => some (some i)
  | _ => none
theorem sp_of {m : M D} (h : SE G C true e m) : SP G C (some e) (mPart m) := ⟨fun X ok => by
  obtain ⟨t, pe, q⟩ := h.go X ok
  refine ⟨_, po_some pe, fun ρ W σ Γ Q rl ⟨o, e, k⟩ => q ρ W σ Γ _ rl ?_⟩
  unfold mPart at e
  split at e
  · rename_i i Γ' em
    cases e
    obtain rfl := h.pu rfl _ _ _ em
    rw [em]
    exact fun v W' l r rp => ⟨i, rp, k W' l r⟩
  · cases e⟩
def dSl (d : D) (lo hi : Option Int) : Option T := match d with
  | .lst xs => some (.fl (cutD xs lo hi))
  | .frz xs => some (.fl (cutD xs lo hi))
  | .str s => if s.length ≤ line then some (.sh (.str (cutD s lo hi))) else none
  | _ => none
def mSl (m : M D) (p q : Sl → Option (Option Int)) : M T := m.bind fun d Γ => match p Γ, q Γ with
  | some lo, some hi => opt (dSl d lo hi) Γ
  | _, _ => .stuck
@[simp] theorem mSl_ap (m : M D) (p q : Sl → Option (Option Int)) (Γ : Sl) : mSl m p q Γ = (m Γ).bind (fun d Γ1 => (match p Γ1, q Γ1 with
  | some lo, some hi => opt (dSl d lo hi) Γ1
  | _, _ => .stuck)) := rfl
theorem sl_pu {m : M D} {p q : Sl → Option (Option Int)} (h : ∀ Γ d Γ', m Γ = .ok d Γ' → Γ' = Γ) : ∀ Γ d Γ', mSl m p q Γ = .ok d Γ' → Γ' = Γ := by
  refine pu_bind h fun c Γ d Γ' e => ?_
  split at e
  · exact pu_opt _ _ _ e
  · cases e
theorem reps_cut {K : PySem.W.Frag} {F : Hp} {ds : List D} {vs : List V} {lo hi : Option Int} (h : reps K F ds vs) : reps K F (cutD ds lo hi) (cutV vs lo hi) := by
  unfold cutD cutV
  rw [← reps_len h]
  exact reps_take _ (reps_drop _ h)
theorem so_sl {lo hi : Option Expr} {p2 : Pos} {m : M D} {p q : Sl → Option (Option Int)} (h : OP G C b e m) (hl : SP G C lo p) (hh : SP G C hi q) : SO G C b (.Subscript e (.Slice lo hi none p2) pos) (mSl m p q) := ⟨fun z => sl_pu (h.pu z), fun X ok => by
  obtain ⟨t, pe, qe⟩ := h.go X ok
  obtain ⟨tl, pl, ql⟩ := hl.go X ok
  obtain ⟨th, ph, qh⟩ := hh.go X ok
  have hk := ok.g
  subst hk
  refine ⟨tSl (fun x l u H Q => rSlL X.K x l u H Q ∨ rSlS x l u H Q) t tl th, pe_slice (SlR.or sl_list sl_str) pe pl ph, fun ρ W σ Γ Q rl w => qe ρ W σ Γ _ rl (wp_mono (wp_bind.mp w) fun d Γ1 _ w1 v W1 l1 r1 vx => ?_)⟩
  cases e1 : p Γ1 with
  | none => rw [e1] at w1; exact w1.elim
  | some lo =>
    cases e2 : q Γ1 with
    | none => rw [e1, e2] at w1; exact w1.elim
    | some hi =>
      rw [e1, e2] at w1
      refine ql ρ W1 σ Γ1 _ r1 ⟨lo, e1, fun W2 l2 r2 => qh ρ W2 σ Γ1 _ r2 ⟨hi, e2, fun W3 l3 r3 => ?_⟩⟩
      have vx3 := vw_sub (l2.tr l3).ext (l2.tr l3).fr vx
      obtain ⟨t, e3, k⟩ := made_end (p := fun _ _ => True) (l1.tr (Lw.of (l2.tr l3))) r3 w1
      unfold dSl at e3
      split at e3
      · cases e3
        obtain ⟨p, vs, e2, a, r⟩ := vx3
        exact .inl ⟨p, vs, e2, .inl (.inl a), fun z hz => k _ _ _ (.lst hz (reps_cut r))⟩
      · cases e3
        obtain ⟨p, vs, e2, a, r⟩ := vx3
        exact .inl ⟨p, vs, e2, sql_sub r3.sub a, fun z hz => k _ _ _ (.lst hz (reps_cut r))⟩
      · rename_i s _
        split at e3
        · rename_i hl
          cases e3
          have e4 : v = .str (tx s) := vx3
          refine .inr ⟨tx s, e4, by rw [tx_len]; exact line_le hl, ?_⟩
          have e5 : cutS (tx s) lo hi = tx (cutD s lo hi) := by
            unfold cutS cutD
            rw [tx_len]
            simp [tx]
          rw [e5]
          exact k _ _ _ (.same rfl)
        · cases e3
      · cases e3⟩
end
end PM
set_option Elab.async false
set_option linter.all false
set_option maxRecDepth 100000
set_option maxHeartbeats 2000000
set_option autoImplicit false
namespace PM
open PySem PySem.Spec PyProof.Rows L2
/-! ### defs and what they promise -/
abbrev SpV := List V → Hp → VK → Prop
/-- how a call ends here: with a value -/
def Back (G : Gb) (outer : List Env) (H : Hp) (s : Shared) (Q : VK) : Result → Shared → Prop
  | .ok (.ret u), s' => CE outer G.P G.w H s Q u s'
  | _, _ => False
structure FnG (G : Gb) (k : Nat) (f : Addr) (fd : FuncData) (ps : List Str) (sp : SpV) : Prop where
  run : ∀ (A : Around) (outer : List Env) (s : Shared) (H : Hp) (args : Args) (us : List Value) (vs : List V) (Q : VK), Room k A → A.guards = some [] → Env0 G.P G.w G.K G.mg G.base A outer s H →
    BindsTo s fd args (ps.zip us) → Vals vs us → vs.length = ps.length → sp vs H Q → codeAny (model G.P G.w) A (.call (.ref f) args) (Back G outer H s Q) s
theorem FnG.mono {G : Gb} {j k : Nat} {f : Addr} {fd : FuncData} {ps : List Str} {sp : SpV} (h : FnG G j f fd ps sp) (l : j ≤ k) : FnG G k f fd ps sp :=
  ⟨fun A outer s H args us vs Q r => h.run A outer s H args us vs Q (r.mono l)⟩
theorem FnG.imp {G : Gb} {k : Nat} {f : Addr} {fd : FuncData} {ps : List Str} {sp sp' : SpV} (h : FnG G k f fd ps sp) (i : ∀ vs H Q, sp' vs H Q → sp vs H Q) : FnG G k f fd ps sp' :=
  ⟨fun A outer s H args us vs Q r g e b v l q => h.run A outer s H args us vs Q r g e b v l (i _ _ _ q)⟩
def ends (Q : VK) : Ends := { nx := fun _ H' => Q .non H', rt := Q }
/-- the promise told by a mirror -/
def fsp (G : Gb) (C : Ct) (m : M Out) : SpV := fun vs H Q => ∃ ρ W Γ, W.H = H ∧ Rl G.K C.io ρ W (start C.N vs) Γ ∧ wp (m Γ) (Ends.at G.K C.io ρ W (ends Q))
/-- THE DEF: its body's mirror is its promise -/
theorem fnG_of {G : Gb} {C : Ct} {nm qual : Str} {pa : Arguments} {bd : List Stmt} {ps : List Str} {dvs : List V} {kws : List (Str × V)} {f : Addr} {fd : FuncData} {m : M Out}
    (FD : FunD G.K nm qual pa bd C.sc dvs kws f fd) (S : FnScope C.N ps C.sc) (hf : C.fn = fun _ => true) (hb : SSs G C bd m) : FnG G (C.k + 1) f fd ps (fsp G C m) := by
  refine ⟨fun A outer s H args us vs Q hr hg e0 hbd rv hl hsp => ?_⟩
  obtain ⟨ρ, W, Γ, rfl, rl, hw⟩ := hsp
  obtain ⟨oc, od, dV, kV, doc, pm, an, cdv, ct, osl, rfl, lk, hcd, _, _⟩ := FD.ex
  have KX : G.K.In s.heap := e0.mod.kin.keeps fun b o e => (e0.bs b o e).1
  refine codeAny_call_function hr.depth (KX _ _ lk) rfl S.co S.gen rfl (PySem.W.codeRec_of KX hcd) (hbd _ _ _ _ ?_)
  refine wpAny_newFunctionEnv_cells S.kind (fun ⟨n, v⟩ hy => ?_) fun env he s1 x => ?_
  · cases S.par n (List.of_mem_zip hy).1 with
    | inl q => exact .inl q
    | inr q => exact .inr ⟨q, PySem.W.cellsFrom_some _ _ _ (.inl q)⟩
  · subst he
    refine ⟨(e0.mod.nolimit.keeps fun b o e => (e0.bs b o e).1).keeps x.toInCall.keep, codeAny_func ?_⟩
    have I := inv_start (CX := fun _ _ _ _ _ _ => False) (E := fun _ _ _ => False) S hr.hd e0 hl rv x
    have I2 := I.wish fun _ _ => False
    let X := (cxOf (fun _ _ _ _ _ _ => False) G.P G.w G.K G.mg G.base C.N qual C.sc f cdv A outer s W.H fun _ _ _ => False).nox
    have ok : OkX G C X := ⟨rfl, rfl, S.nd, rfl, rfl, hr.deeper _, hg, hf.symm, rfl⟩
    obtain ⟨t, ht, hq⟩ := hb.go X ok
    refine wpAny_mono (ht.run [] s1 (start C.N vs) W.H (ends Q) I2 (hq ρ W _ Γ _ rl hw)) (fun fl s' hs => ?_) fun e s' z => z.elim
    have fin : ∀ {σ' : L2.St} {H' : Hp} {v : V} {u : Value}, Inv X [] σ' H' s' → RelV v u → Q v H' → CE outer G.P G.w W.H s Q u s' :=
      fun {σ' H' v u} J r q => ⟨v, H', J.os, J.bare, J.base, J.hok, r, q⟩
    cases fl with
    | ret u => obtain ⟨v, σ', H', J, r, q⟩ := hs; exact fin J r q
    | next => obtain ⟨σ', H', J, q⟩ := hs; exact fin (v := V.non) (u := Value.none) J rfl q
    | brk => obtain ⟨_, _, _, q⟩ := hs; exact q.elim
    | cont => obtain ⟨_, _, _, q⟩ := hs; exact q.elim
/-! ### it is called -/
section
variable {X : Cx} {pins : List (Addr × Obj)} {σ : L2.St} {H : Hp} {s : Shared} {Q : VK} {k : Nat} {f : Addr} {fd : FuncData} {ps : List Str} {sp : SpV} {us : List Value} {vs : List V} {args : Args}
theorem back_ep (I : Inv X pins σ H s) {r : Result} {s' : Shared} (h : Back (gb X) X.stack H s Q r s') : ∃ u, r = .ok (.ret u) ∧ EP X pins σ Q u s' := by
  cases r with
  | error e => exact h.elim
  | ok fl =>
    cases fl with
    | ret u => exact ⟨u, rfl, I.after h⟩
    | next => exact h.elim
    | brk => exact h.elim
    | cont => exact h.elim
theorem run_g (F : FnG (gb X) k f fd ps sp) (hr : Room k X.A) (hg : X.A.guards = some []) (I : Inv X pins σ H s) (hb : BindsTo s fd args (ps.zip us)) (r : Vals vs us) (hl : vs.length = ps.length) (h : sp vs H Q) :
    codeAny (model X.prog X.w) X.A (.call (.ref f) args) (fun r s' => ∃ u, r = .ok (.ret u) ∧ EP X pins σ Q u s') s :=
  codeAny_mono (F.run X.A X.stack s H args us vs Q hr hg I.env0 hb r hl h) fun r s' q => back_ep I q
theorem run_call (F : FnG (gb X) k f fd ps sp) (hr : Room k X.A) (hg : X.A.guards = some []) (I : Inv X pins σ H s) (hb : BindsTo s fd ⟨us, []⟩ (ps.zip us)) (r : Vals vs us) (hl : vs.length = ps.length) (h : sp vs H Q) :
    wpAny (model X.prog X.w) X.A (call (.ref f) us) (EP X pins σ Q) X.xe s :=
  wpAny_call (codeAny_mono (run_g F hr hg I hb r hl h) fun r s' ⟨u, e, q⟩ => by subst e; exact q)
/-- all parameters are given -/
abbrev BindsAll (fd : FuncData) (ps : List Str) : Prop := ∀ us : List Value, us.length = ps.length → bindArgs fd ⟨us, []⟩ = pure (ps.zip us)
def tG (sp : SpV) (n : Nat) (t : TA) : TE := fun σ H Q => t σ H fun vs H1 => vs.length = n ∧ sp vs H1 Q
theorem pe_g {x : Str} {p pos : Pos} {e : Expr} {es : List Expr} {t : TA} (F : FnG (gb X) k f fd ps sp) (hr : Room k X.A) (hgd : X.A.guards = some []) (hg : Gl X x) (hm : X.mg x = some (.ref f)) (hk : PySem.W.keepIn X.K (.ref f) = true) (hb : BindsAll fd ps)
    (ha : PA X (e :: es) t) (hdb : (x == ("__debug__" : Str)) = false) (he : starEach (e :: es) X.env = (false, eval e X.env) :: starEach es X.env) (hpl : (backTo pos (starEach es X.env)).any (·.1) = false) :
    PE X (.Call (.Name x p) (e :: es) [] pos) (tG sp ps.length t) := by
  refine ⟨fun pins s σ H Q I h => wpAny_Call_Name_kw (ld_glob I hg hm ?_ hdb)⟩
  refine PySem.W.callWith_K (h₀ := X.base) I.ok.mod.kin hk (thn (ha.run pos pins s σ H _ I h) ?_) he hpl
  rintro us s1 ⟨vs, H1, I1, r, hl, q⟩
  exact ⟨I1.kIn, run_call F hr hgd I1 (.of_eq (hb us (r.length ▸ hl))) r hl q⟩
end
end PM
set_option Elab.async false
set_option linter.all false
set_option maxRecDepth 100000
set_option maxHeartbeats 2000000
set_option autoImplicit false
namespace PM
open PySem PySem.Spec PyProof.Rows L2
section
variable {X : Cx} {pins : List (Addr × Obj)} {σ : L2.St} {H : Hp} {s : Shared} {Q : VK} {k : Nat} {f C : Addr} {fd : FuncData} {ps : List Str} {sp : SpV} {us : List Value} {vs : List V}
  {x m : Str} {p pos apos : Pos} {e o : Expr} {es : List Expr} {ta : TE} {t : TA}
/-! ### o.m(..) -/
def tGM (C : Addr) (m : Str) (sp : SpV) (n : Nat) (ta : TE) (t : TA) : TE := fun σ H Q => ta σ H fun x H1 => ∃ a dx fs, x = .ref a ∧ H1 a = some (.ins C dx fs) ∧ fs.lookup m = none ∧
  t σ H1 fun vs H2 => vs.length + 1 = n ∧ sp (x :: vs) H2 Q
abbrev MethForm (o : Expr) (m : Str) (apos pos : Pos) (es : List Expr) : Prop := ∀ env, ∃ pl : Sem Bool, eval (.Call (.Attribute o m apos) es [] pos) env = (do
      let ov ← eval o env
      standAt apos.atName
      let (f, first) ← holding [ov] (getMethod ov m pl)
      callWith pos f first (backTo pos (starEach es env)) (backToKw pos (keywordEach [] env)))
theorem pe_gm (he : PE X o ta) (c : Cls X.K C) (hm : Meth X.K C m f) (F : FnG (gb X) k f fd ps sp) (hr : Room k X.A) (hg : X.A.guards = some []) (hb : BindsAll fd ps) (ha : PA X (e :: es) t)
    (hst : starEach (e :: es) X.env = (false, eval e X.env) :: starEach es X.env) (hpl : (backTo pos (starEach es X.env)).any (·.1) = false) (ht : MethForm o m apos pos (e :: es)) :
    PE X (.Call (.Attribute o m apos) (e :: es) [] pos) (tGM C m sp ps.length ta t) := by
  obtain ⟨pl, ht⟩ := ht X.env
  refine ⟨fun pins s σ H Q I h => PySem.W.methodCall_KW (pl := pl) (thn (he.run pins s σ H _ I h) ?_) ht⟩
  rintro u s1 ⟨x, H1, I1, rx, a, dx, fs, rfl, ea, l, q⟩
  obtain rfl : u = Value.ref a := rx
  refine getmeth_ok I1 ea c hm l (PySem.W.callWith_K (first := [.ref a]) (h₀ := X.base) I.ok.mod.kin hm.kp (thn (ha.run pos pins s1 σ H1 _ I1 q) ?_) hst hpl)
  rintro us s2 ⟨vs, H2, I2, r, hl, q2⟩
  have r2 : Vals (V.ref a :: vs) (Value.ref a :: us) := .cons rfl r
  exact ⟨I2.kIn, run_call F hr hg I2 (.of_eq (hb (Value.ref a :: us) (by rw [← r2.length]; exact hl))) r2 hl q2⟩
theorem pe_gm0 (he : PE X o ta) (c : Cls X.K C) (hm : Meth X.K C m f) (F : FnG (gb X) k f fd ps sp) (hr : Room k X.A) (hg : X.A.guards = some []) (hb : BindsAll fd ps) (ht : MethForm o m apos pos []) :
    PE X (.Call (.Attribute o m apos) [] [] pos) (tGM C m sp ps.length ta tNil) := by
  obtain ⟨pl, ht⟩ := ht X.env
  refine ⟨fun pins s σ H Q I h => PySem.W.methodCall_KW (pl := pl) (thn (he.run pins s σ H _ I h) ?_) ht⟩
  rintro u s1 ⟨x, H1, I1, rx, a, dx, fs, rfl, ea, l, hl, q⟩
  obtain rfl : u = Value.ref a := rx
  have r2 : Vals [V.ref a] [Value.ref a] := .cons rfl .nil
  exact getmeth_ok I1 ea c hm l (PySem.W.callWith_K0 (first := [.ref a]) I1.kIn hm.kp (run_call F hr hg I1 (.of_eq (hb _ hl)) r2 hl q))
/-! ### C(..) -/
def tGK (C : Addr) (sp : SpV) (n : Nat) (t : TA) : TE := fun σ H Q => t σ H fun vs H1 => vs.length + 1 = n ∧ ∀ x dx, H1 x = none → H1 dx = none → dx ≠ x →
  sp (.ref x :: vs) (upd (upd H1 dx (.own x)) x (.ins C dx [])) (fun v H2 => v = .non ∧ Q (.ref x) H2)
theorem run_gk (M : Mk X.K C f) (F : FnG (gb X) k f fd ps sp) (hr : Room (k + 1) X.A) (hg : X.A.guards = some []) (hb : BindsAll fd ps) (I : Inv X pins σ H s) (r : Vals vs us) (hl : vs.length + 1 = ps.length)
    (h : ∀ x dx, H x = none → H dx = none → dx ≠ x → sp (.ref x :: vs) (upd (upd H dx (.own x)) x (.ins C dx [])) (fun v H2 => v = .non ∧ Q (.ref x) H2)) :
    wpAny (model X.prog X.w) X.A (call (.ref C) us) (EP X pins σ Q) X.xe s := by
  have hq := h (s.heap.objs.size + 1) s.heap.objs.size (I.hok.fresh (Nat.le_succ _)) (I.hok.fresh (Nat.le_refl _)) (Nat.ne_of_lt (Nat.lt_succ_self _))
  have I2 := Inv.made (C := C) I
  have r2 : Vals (V.ref (s.heap.objs.size + 1) :: vs) (Value.ref (s.heap.objs.size + 1) :: us) := .cons rfl r
  refine wpAny_call (make_map (f := f) I.kIn M.makes M.init (beq_iff_eq.mp M.fn) (codeAny_mono (F.run _ X.stack _ _ _ _ _ _ (hr.make C us []) hg (I2.env0.make C us []) (.of_eq (hb _ (by rw [← r2.length]; exact hl))) r2 hl hq) ?_))
  intro r s' z
  obtain ⟨u, rfl, v, H', I3, rv, ev, q3⟩ := back_ep I2 z
  subst ev
  exact ⟨rv, ⟨V.ref (s.heap.objs.size + 1), H', I3, rfl, q3⟩⟩
theorem pe_gk (M : Mk X.K C f) (F : FnG (gb X) k f fd ps sp) (hr : Room (k + 1) X.A) (hgd : X.A.guards = some []) (hg : Gl X x) (hm : X.mg x = some (.ref C)) (hb : BindsAll fd ps) (ha : PA X (e :: es) t)
    (hdb : (x == ("__debug__" : Str)) = false) (he : starEach (e :: es) X.env = (false, eval e X.env) :: starEach es X.env) (hpl : (backTo pos (starEach es X.env)).any (·.1) = false) :
    PE X (.Call (.Name x p) (e :: es) [] pos) (tGK C sp ps.length t) := by
  refine ⟨fun pins s σ H Q I h => wpAny_Call_Name_kw (ld_glob I hg hm ?_ hdb)⟩
  refine PySem.W.callWith_K (h₀ := X.base) I.ok.mod.kin M.kp (thn (ha.run pos pins s σ H _ I h) ?_) he hpl
  rintro us s1 ⟨vs, H1, I1, r, hl, q⟩
  exact ⟨I1.kIn, run_gk M F hr hgd hb I1 r hl q⟩
/-! ### o.f, a property -/
def tGP (C : Addr) (sp : SpV) (ta : TE) : TE := fun σ H Q => ta σ H fun x H1 => ∃ a dx fs, x = .ref a ∧ H1 a = some (.ins C dx fs) ∧ sp [x] H1 Q
theorem pe_gp {q : Addr} (he : PE X e ta) (c : Cls X.K C) (hp : PropOf X.K C m q f) (F : FnG (gb X) k f fd ps sp) (hr : Room (k + 1) X.A) (hg : X.A.guards = some []) (hb : BindsAll fd ps) (hl : ps.length = 1) (hnx : X.xe = fun _ _ => False)
    (hab : attributeBase e m X.env (eval e X.env) = eval e X.env) : PE X (.Attribute e m pos) (tGP C sp ta) := by
  refine ⟨fun pins s σ H Q I h => attr_of hab (thn (he.run pins s σ H _ I h) ?_)⟩
  rintro u s1 ⟨x, H1, I1, rx, a, dx, fs, rfl, ea, hsp⟩
  obtain rfl : u = Value.ref a := rx
  obtain ⟨mA, O, _⟩ := ins_get I1.hok ea
  obtain ⟨od, J, _⟩ := O.look
  obtain ⟨rest, hrec⟩ := hp.rec_
  have I2 := I1.tok (s1.toks + 1)
  have hc : (PySem.W.clsIn X.K C).isSome = true := by
    obtain ⟨cd, hc, _⟩ := PySem.W.any_some c.hd
    rw [hc]; rfl
  have r2 : Vals [V.ref a] [Value.ref a] := .cons rfl .nil
  refine PySem.W.get_bind I1.kIn J (PySem.W.plainGet_of (c.get m)).1 (PySem.W.findObj_data hc hp.at_ hp.get hp.tak) (PySem.W.plainGet_of (c.get m)).2 (wpAny_call (PySem.W.prop_get (s := { s1 with toks := s1.toks + 1 }) I1.kIn hrec ?_))
  refine codeAny_mono (F.run X.A.in1 X.stack _ H1 _ [.ref a] [.ref a] Q hr.in1 hg I2.env0.in1 (.of_eq (hb _ hl.symm)) r2 hl.symm hsp) fun r s' z => ?_
  obtain ⟨u, rfl, v, H', I3, rv, q3⟩ := back_ep I2 z
  show wpAny _ _ (handedOut u) _ _ _
  rw [PySem.W.handedOut_of (handed_of rv)]
  exact wpAny_pure ⟨v, H', I3, rv, q3⟩
/-! ### len, == by the class's own -/
def rLenG (C : Addr) (sp : SpV) : List V → Hp → VK → Prop := fun xs H Q => ∃ a dx fs, xs = [.ref a] ∧ H a = some (.ins C dx fs) ∧ sp xs H (fun v H' => ∃ n : Int, v = .int n ∧ 0 ≤ n ∧ n < 2 ^ 63 ∧ Q v H')
theorem cr_lenG (F : FnG (gb X) k f fd ps sp) (hr : Room (k + 1) X.A) (hg : X.A.guards = some []) (hb : BindsAll fd ps) (hl : ps.length = 1)
    (hs : PySem.W.findIn X.K (.ref C) "__len__" = some (some (.ref f))) (hf : PySem.W.isFn X.K (.ref f) = true) : CallR X (.builtin "len") (rLenG C sp) := by
  rintro pins s σ H xs us Q I r ⟨a, dx, fs, rfl, ea, hsp⟩
  obtain ⟨u, rfl, ru⟩ : ∃ u, us = [u] ∧ RelV (.ref a) u := by
    cases r with
    | cons h t => cases t; exact ⟨_, rfl, h⟩
  obtain rfl : u = Value.ref a := ru
  obtain ⟨mA, O, _⟩ := ins_get I.hok ea
  obtain ⟨od, J, _⟩ := O.look
  obtain ⟨m, hF⟩ := I.fr
  have r2 : Vals [V.ref a] [Value.ref a] := .cons rfl .nil
  refine PySem.W.len_K hF I.ok.mod.kin J hs hf (wpAny_call (codeAny_mono (F.run X.A.in1 X.stack s H ⟨[.ref a], []⟩ [.ref a] [.ref a] _ hr.in1 hg I.env0.in1 (.of_eq (hb _ hl.symm)) r2 hl.symm hsp) fun r s' z => ?_))
  obtain ⟨u, rfl, v, H', I3, rv, n, rfl, n0, n1, q3⟩ := back_ep I z
  obtain ⟨tk, rfl⟩ := rv
  exact ⟨⟨n0, n1⟩, ⟨.int n, H', I3.tok _, ⟨_, rfl⟩, q3⟩⟩
def rEqOwn (C : Addr) (sp : SpV) : R2 := fun x y H Q => ∃ a b dx dy fs gs, x = .ref a ∧ y = .ref b ∧ H a = some (.ins C dx fs) ∧ H b = some (.ins C dy gs) ∧ sp [x, y] H (fun v H' => (∃ c, v = .bl c) ∧ Q v H')
theorem op_eqOwn (F : FnG (gb X) k f fd ps sp) (hr : Room k X.A) (hg : X.A.guards = some []) (hb : BindsAll fd ps) (hl : ps.length = 2)
    (hs : PySem.W.findIn X.K (.ref C) "__eq__" = some (some (.ref f))) (hf : PySem.W.isFn X.K (.ref f) = true) : OpR X (compareOp .Eq) (rEqOwn C sp) := by
  rintro pins s σ H x y v u Q I rx ry ⟨a, b, dx, dy, fs, gs, rfl, rfl, ha, hb', hsp⟩
  obtain rfl : v = Value.ref a := rx
  obtain rfl : u = Value.ref b := ry
  obtain ⟨mA, J, _⟩ := ins_get I.hok ha
  obtain ⟨mB, J', _⟩ := ins_get I.hok hb'
  obtain ⟨od, J, _⟩ := J.look
  obtain ⟨od', J', _⟩ := J'.look
  obtain ⟨m, hF⟩ := I.fr
  have r2 : Vals [V.ref a, V.ref b] [Value.ref a, Value.ref b] := .cons rfl (.cons rfl .nil)
  show wpAny (model X.prog X.w) X.A (richCompare .Eq _ _) _ X.xe s
  refine PySem.W.cmp_K (op := .Eq) (tb := .ref C) hr.units0 hF I.ok.mod.kin J J'.type (by simp [PySem.W.notFirst]) hs hf ?_
  refine wpAny_call (codeAny_mono (F.run X.A X.stack s H ⟨[.ref a, .ref b], []⟩ _ _ _ hr hg I.env0 (.of_eq (hb _ hl.symm)) r2 hl.symm hsp) fun r s' z => ?_)
  obtain ⟨u, rfl, v, H', I3, rv, ⟨c, rfl⟩, q3⟩ := back_ep I z
  cases rv
  exact ⟨.bl c, H', I3, rfl, q3⟩
/-! ### f(k = e) -/
def one (q : V → Hp → Prop) : List V → Hp → Prop
  | [v], H => q v H
  | _, _ => False
theorem one_of {q : V → Hp → Prop} {vs : List V} {H : Hp} (h : one q vs H) : ∃ v, vs = [v] ∧ q v H := by
  unfold one at h
  split at h
  · exact ⟨_, rfl, h⟩
  · exact h.elim
theorem pe_gkw {kw : Str} {p2 : Pos} (F : FnG (gb X) k f fd ps sp) (hr : Room k X.A) (hgd : X.A.guards = some []) (hg : Gl X x) (hm : X.mg x = some (.ref f)) (hk : PySem.W.keepIn X.K (.ref f) = true)
    (hb : ∀ u : Value, bindArgs fd ⟨[], [(kw, u)]⟩ = pure (ps.zip [u])) (hl : ps.length = 1) (ha : PE X e ta) (hdb : (x == ("__debug__" : Str)) = false) :
    PE X (.Call (.Name x p) [] [⟨some kw, e, p2⟩] pos) (fun σ H Q => ta σ H fun v H1 => sp [v] H1 Q) := by
  refine ⟨fun pins s σ H Q I h => wpAny_Call_Name_kw (ld_glob I hg hm ?_ hdb)⟩
  have pk : PK X [⟨some kw, e, p2⟩] (tCons ta tNil) := pk_cons ha pk_nil
  refine PySem.W.callWith_KW0 (h₀ := X.base) I.ok.mod.kin hk rfl (thn (pk.run pos pins s σ H (one fun v H1 => sp [v] H1 Q) I h) ?_) rfl
  rintro us s1 ⟨vs, H1, I1, r, q⟩
  obtain ⟨v, rfl, q⟩ := one_of q
  obtain ⟨u, rfl, ru⟩ : ∃ u, us = [u] ∧ RelV v u := by
    cases r with
    | cons h t => cases t; exact ⟨_, rfl, h⟩
  refine ⟨I1.kIn, ?_⟩
  have r2 : Vals [v] [u] := .cons ru .nil
  exact wpAny_call (codeAny_mono (run_g F hr hgd I1 (.of_eq (hb u)) r2 hl.symm q) fun r s' ⟨u, e, q⟩ => by subst e; exact q)
end
end PM
set_option Elab.async false
set_option linter.all false
set_option maxRecDepth 100000
set_option maxHeartbeats 2000000
set_option autoImplicit false
namespace PM
open PySem PySem.Spec PyProof.Rows L2
/-! ### a call's answer in the caller's slots -/
def back : List (Option Nat) → Sl → Sl → Sl
  | [], _, Γ => Γ
  | none :: js, Γc, Γ => back js Γc.tail Γ
  | some j :: js, Γc, Γ => back js Γc.tail (Γ.set j (Γc.head?.getD none))
theorem back_len : ∀ (js : List (Option Nat)) (Γc Γ : Sl), (back js Γc Γ).length = Γ.length
  | [], _, _ => rfl
  | none :: js, Γc, Γ => back_len js Γc.tail Γ
  | some j :: js, Γc, Γ => (back_len js Γc.tail _).trans (List.length_set ..)
theorem back_out : ∀ (js : List (Option Nat)) (Γc Γ : Sl) (j : Nat), (∀ i : Nat, js[i]? ≠ some (some j)) → (back js Γc Γ)[j]? = Γ[j]?
  | [], _, _, _, _ => rfl
  | none :: js, Γc, Γ, j, h => back_out js Γc.tail Γ j fun i => h (i + 1)
  | some k :: js, Γc, Γ, j, h => (back_out js Γc.tail _ j fun i => h (i + 1)).trans (List.getElem?_set_ne fun e => h 0 (by rw [e]; rfl))
def Once (js : List (Option Nat)) : Prop := ∀ i i' j : Nat, js[i]? = some (some j) → js[i']? = some (some j) → i = i'
theorem back_in : ∀ (js : List (Option Nat)) (Γc Γ : Sl) (i j : Nat) (t : T), Once js → js[i]? = some (some j) → (back js Γc Γ)[j]? = some (some t) → Γc[i]? = some (some t)
  | [], _, _, i, j, t, _, h, _ => by simp at h
  | none :: js, Γc, Γ, i, j, t, o, h, e => by
    cases i with
    | zero => cases h
    | succ i =>
      have := back_in js Γc.tail Γ i j t (fun a b c x y => Nat.succ.inj (o (a + 1) (b + 1) c x y)) h e
      simpa using this
  | some k :: js, Γc, Γ, i, j, t, o, h, e => by
    cases i with
    | succ i =>
      have := back_in js Γc.tail _ i j t (fun a b c x y => Nat.succ.inj (o (a + 1) (b + 1) c x y)) h e
      simpa using this
    | zero =>
      obtain rfl : k = j := by simpa using h
      have e2 : (back js Γc.tail (Γ.set k (Γc.head?.getD none)))[k]? = some (some t) := e
      rw [back_out _ _ _ _ fun i z => by cases o 0 (i + 1) k h z] at e2
      by_cases hk : k < Γ.length
      · rw [List.getElem?_set_self hk] at e2
        have e3 := Option.some.inj e2
        cases Γc with
        | nil => cases e3
        | cons x r => simpa using e3
      · rw [List.getElem?_eq_none (by rw [List.length_set]; omega)] at e2; cases e2
def start' (n : Nat) (ts : List T) : Sl := ts.map some ++ List.replicate (n - ts.length) none
theorem start_get {n : Nat} {ts : List T} {i : Nat} {t : T} (h : (start' n ts)[i]? = some (some t)) : ts[i]? = some t := by
  unfold start' at h
  by_cases hi : i < ts.length
  · rw [List.getElem?_append_left (by simpa using hi), List.getElem?_map] at h
    cases e : ts[i]? with
    | none => rw [e] at h; cases h
    | some a => rw [e] at h; cases h; rfl
  · rw [List.getElem?_append_right (by simpa using hi), List.getElem?_replicate] at h
    split at h <;> cases h
def outOf : R Out → Option (T × Sl)
  | .ok (.rt t) Γ => some (t, Γ)
  | .ok .nx Γ => some (.sh .non, Γ)
  | _ => none
@[simp] theorem outOf_rt (t : T) (Γ : Sl) : outOf (.ok (.rt t) Γ) = some (t, Γ) := rfl
@[simp] theorem outOf_nx (Γ : Sl) : outOf (.ok .nx Γ) = some (.sh .non, Γ) := rfl
@[simp] theorem outOf_stuck : outOf .stuck = none := rfl
def callM (n : Nat) (m : M Out) (js : List (Option Nat)) (ts : List T) : M T := fun Γ => match outOf (m (start' n ts)) with
  | some (t, Γc) => .ok t (back js Γc Γ)
  | none => .stuck
/-- the arguments: values, and names that are lent -/
def Mix (K : PySem.W.Frag) (F : Hp) (σ : L2.St) : List (Option Nat) → List D → List V → Prop
  | [], ds, vs => ds = [] ∧ vs = []
  | none :: js, ds, vs => ∃ d ds' v vs', ds = d :: ds' ∧ vs = v :: vs' ∧ rep K F d v ∧ Mix K F σ js ds' vs'
  | some j :: js, ds, vs => ∃ v vs', vs = v :: vs' ∧ σ[j]? = some (some v) ∧ Mix K F σ js ds vs'
def argsOf : List (Option Nat) → List D → Sl → Option (List T)
  | [], [], _ => some []
  | none :: js, d :: ds, Γ => (argsOf js ds Γ).map (T.sh d :: ·)
  | some j :: js, ds, Γ => match Γ[j]? with
    | some (some t) => (argsOf js ds Γ).map (t :: ·)
    | _ => none
  | _, _, _ => none
theorem mix_sub {K : PySem.W.Frag} {F F' : Hp} {σ : L2.St} (s : Sub F F') : ∀ {js : List (Option Nat)} {ds : List D} {vs : List V}, Mix K F σ js ds vs → Mix K F' σ js ds vs
  | [], _, _, h => h
  | none :: js, _, _, ⟨d, ds', v, vs', e1, e2, r, h⟩ => ⟨d, ds', v, vs', e1, e2, rep_sub s d v r, mix_sub s h⟩
  | some j :: js, _, _, ⟨v, vs', e1, e2, h⟩ => ⟨v, vs', e1, e2, mix_sub s h⟩
/-- one argument, in place -/
structure Arg (K : PySem.W.Frag) (F : Hp) (σ : L2.St) (Γ : Sl) (o : Option Nat) (t : T) (v : V) : Prop where
  val : o = none → ∃ d, t = .sh d ∧ rep K F d v
  lent : ∀ j, o = some j → Γ[j]? = some (some t) ∧ σ[j]? = some (some v)
theorem args_at {K : PySem.W.Frag} {F : Hp} {σ : L2.St} {Γ : Sl} : ∀ {js : List (Option Nat)} {ds : List D} {vs : List V} {ts : List T}, Mix K F σ js ds vs → argsOf js ds Γ = some ts →
    ts.length = js.length ∧ vs.length = js.length ∧ ∀ (i : Nat) (t : T), ts[i]? = some t → ∃ (o : Option Nat) (v : V), js[i]? = some o ∧ vs[i]? = some v ∧ Arg K F σ Γ o t v
  | [], ds, vs, ts, ⟨e1, e2⟩, e => by
    subst e1; subst e2
    cases e
    exact ⟨rfl, rfl, fun i t h => by simp at h⟩
  | none :: js, ds, vs, ts, ⟨d, ds', v, vs', e1, e2, r, h⟩, e => by
    subst e1; subst e2
    obtain ⟨ts', e3, rfl⟩ := Option.map_eq_some_iff.mp (show (argsOf js ds' Γ).map (T.sh d :: ·) = some ts from e)
    obtain ⟨l1, l2, k⟩ := args_at h e3
    refine ⟨congrArg Nat.succ l1, congrArg Nat.succ l2, fun i t q => ?_⟩
    cases i with
    | zero =>
      obtain rfl : T.sh d = t := by simpa using q
      exact ⟨none, v, rfl, rfl, ⟨fun _ => ⟨d, rfl, r⟩, fun j z => (nomatch z)⟩⟩
    | succ i => exact k i t (by simpa using q)
  | some j :: js, ds, vs, ts, ⟨v, vs', e2, e4, h⟩, e => by
    subst e2
    unfold argsOf at e
    split at e
    · rename_i t0 hj
      obtain ⟨ts', e3, rfl⟩ := Option.map_eq_some_iff.mp e
      obtain ⟨l1, l2, k⟩ := args_at h e3
      refine ⟨congrArg Nat.succ l1, congrArg Nat.succ l2, fun i t q => ?_⟩
      cases i with
      | zero =>
        obtain rfl : t0 = t := by simpa using q
        exact ⟨some j, v, rfl, rfl, ⟨fun z => (nomatch z), fun j' z => by cases z; exact ⟨hj, e4⟩⟩⟩
      | succ i => exact k i t (by simpa using q)
    · cases e
/-- what a call leaves to the caller -/
theorem call_rl {G : Gb} {C : Ct} {io : List Nat} {ρ : List (Nat × V)} {W : Wd} {σ : L2.St} {Γ : Sl} {m : M Out} {js : List (Option Nat)} {ds : List D} {vs : List V} {ts : List T} {Q : VK}
    (r : Rl G.K io ρ W σ Γ) (ho : Once js) (hio : ∀ i j : Nat, js[i]? = some (some j) → i ∈ C.io) (hn : js.length ≤ C.N.length) (hm : Mix G.K W.F σ js ds vs) (ha : argsOf js ds Γ = some ts)
    (w : wp (callM C.N.length m js ts Γ) (fun t Γ' => ∀ v W' B, Le W W' → Rl G.K io ρ W' σ Γ' → Fre G.K false W W' t v B → Q v W'.H)) : fsp G C m vs W.H Q := by
  obtain ⟨l1, l2, at_⟩ := args_at hm ha
  let Wc : Wd := ⟨W.F, W.H, fun i a => ∃ j, js[i]? = some (some j) ∧ W.A j a⟩
  let ρc : List (Nat × V) := (List.range vs.length).filterMap fun i => match js[i]?, vs[i]? with
    | some (some _), some v => some (i, v)
    | _, _ => none
  have ρc_in : ∀ (i j : Nat) (v : V), js[i]? = some (some j) → vs[i]? = some v → (i, v) ∈ ρc := fun i j v h1 h2 => by
    refine List.mem_filterMap.mpr ⟨i, List.mem_range.mpr (List.getElem?_eq_some_iff.mp h2).1, ?_⟩
    rw [h1, h2]
  have ρc_of : ∀ p ∈ ρc, ∃ j, js[p.1]? = some (some j) ∧ vs[p.1]? = some p.2 := fun p hp => by
    obtain ⟨i, _, e⟩ := List.mem_filterMap.mp hp
    split at e
    · rename_i j v h1 h2
      cases e
      exact ⟨j, h1, h2⟩
    · cases e
  have start_v : ∀ (i : Nat) (v : V), vs[i]? = some v → (start C.N vs)[i]? = some (some v) := fun i v h => by
    unfold L2.start
    rw [List.getElem?_append_left (by simpa using (List.getElem?_eq_some_iff.mp h).1), List.getElem?_map, h]; rfl
  have rc : Rl G.K C.io ρc Wc (start C.N vs) (start' C.N.length ts) := by
    refine ⟨r.sub, ?_, fun i t e => ?_, fun i i' a n h1 h2 => ?_, fun i a ⟨j, _, h⟩ => r.nof j a h, fun i a ⟨j, _, h⟩ => r.alc j a h, fun p hp => ?_⟩
    · unfold L2.start start'
      simp only [List.length_append, List.length_map, List.length_replicate]
      omega
    · obtain ⟨o, v, h1, h2, A⟩ := at_ i t (start_get e)
      refine ⟨v, start_v i v h2, ?_⟩
      cases o with
      | none => obtain ⟨d, rfl, rp⟩ := A.val rfl; exact rp
      | some j =>
        obtain ⟨g1, g2⟩ := A.lent j rfl
        obtain ⟨v', g3, ow⟩ := r.slot j t g1
        rw [g2] at g3; cases g3
        exact own_sub Sub.rfl' t v _ _ (fun a q => ⟨j, h1, q⟩) (fun a o _ q => q) ow
    · obtain ⟨j, g1, g2⟩ := h1
      obtain ⟨j', g3, g4⟩ := h2
      by_cases q : j = j'
      · subst q; exact n (ho i i' j g1 g3)
      · exact r.dis j j' a q g2 g4
    · obtain ⟨j, g1, g2⟩ := ρc_of p hp
      exact ⟨hio _ _ g1, start_v _ _ g2⟩
  refine ⟨ρc, Wc, _, rfl, rc, ?_⟩
  -- behind the callee
  have fin : ∀ (t : T) (Γc : Sl) (v : V) (σc : L2.St) (W1 : Wd) (B : Addr → Prop), outOf (m (start' C.N.length ts)) = some (t, Γc) → Le Wc W1 → Rl G.K C.io ρc W1 σc Γc → Fre G.K false Wc W1 t v B → Q v W1.H := by
    intro t Γc v σc W1 B e l r1 f
    unfold callM at w
    rw [e] at w
    have inA : ∀ {i a}, Wc.A i a → ∃ j, js[i]? = some (some j) ∧ W.A j a := fun h => h
    -- an address of another name
    have oth : ∀ {j a}, (¬ ∃ i : Nat, js[i]? = some (some j)) → W.A j a → ∀ i, ¬ Wc.A i a := fun {j a} nj h i hi => by
      obtain ⟨j', g1, g2⟩ := inA hi
      by_cases q : j' = j
      · subst q; exact nj ⟨i, g1⟩
      · exact r.dis j' j a q g2 h
    have had : ∀ {j a}, W.A j a → W.H a ≠ none := fun {j a} h z => by
      obtain ⟨o, ho⟩ := r.alc j a h
      rw [z] at ho; cases ho
    refine w v ⟨W1.F, W1.H, fun j a => (∃ i : Nat, js[i]? = some (some j) ∧ W1.A i a) ∨ ((¬ ∃ i : Nat, js[i]? = some (some j)) ∧ W.A j a)⟩ B ?_ ?_ ?_
    · refine ⟨l.ext, fun a o n h => l.fr a o (fun i hi => by obtain ⟨j, _, g⟩ := inA hi; exact n j g) h, fun j a h => ?_, fun a o h => ?_⟩
      · rcases h with ⟨i, _, h⟩ | ⟨_, h⟩
        · rcases l.ft i a h with ⟨i', h'⟩ | q
          · obtain ⟨j', _, g⟩ := inA h'; exact .inl ⟨j', g⟩
          · exact .inr q
        · exact .inl ⟨j, h⟩
      · rcases l.nw a o h with q | ⟨i, q⟩ | q
        · exact .inl q
        · obtain ⟨j', _, g⟩ := inA q; exact .inr (.inl ⟨j', g⟩)
        · exact .inr (.inr q)
    · refine ⟨r1.sub, (back_len ..).trans r.len, fun j t' e' => ?_, fun j j' a n h1 h2 => ?_, fun j a h => ?_, fun j a h => ?_, r.fix⟩
      · by_cases hj : ∃ i : Nat, js[i]? = some (some j)
        · obtain ⟨i, hi⟩ := hj
          have e2 := back_in js Γc Γ i j t' ho hi e'
          obtain ⟨v', g1, ow⟩ := r1.slot i t' e2
          have hlt : i < vs.length := by rw [l2]; exact (List.getElem?_eq_some_iff.mp hi).1
          have hv := List.getElem?_eq_getElem hlt
          have g2 := (r1.fix _ (ρc_in i j _ hi hv)).2
          rw [g2] at g1; cases g1
          have ht : i < ts.length := by rw [l1, ← l2]; exact hlt
          obtain ⟨o, v2, k1, k2, A⟩ := at_ i _ (List.getElem?_eq_getElem ht)
          rw [hi] at k1; cases k1
          rw [hv] at k2; cases k2
          exact ⟨_, (A.lent j rfl).2, own_sub Sub.rfl' t' _ _ _ (fun a q => .inl ⟨i, hi, q⟩) (fun a o _ q => q) ow⟩
        · rw [back_out js Γc Γ j fun i z => hj ⟨i, z⟩] at e'
          obtain ⟨v', g1, ow⟩ := r.slot j t' e'
          exact ⟨v', g1, own_sub l.ext t' v' _ _ (fun a q => .inr ⟨hj, q⟩) (fun a o q h => l.fr a o (oth hj q) h) ow⟩
      · rcases h1 with ⟨i, g1, h1⟩ | ⟨g1, h1⟩
        · rcases h2 with ⟨i', g2, h2⟩ | ⟨g2, h2⟩
          · by_cases q : i = i'
            · subst q; rw [g1] at g2; cases g2; exact n rfl
            · exact r1.dis i i' a q h1 h2
          · rcases l.ft i a h1 with ⟨i', q⟩ | q
            · exact oth g2 h2 i' q
            · exact had h2 q
        · rcases h2 with ⟨i', g2, h2⟩ | ⟨g2, h2⟩
          · rcases l.ft i' a h2 with ⟨i, q⟩ | q
            · exact oth g1 h1 i q
            · exact had h1 q
          · exact r.dis j j' a n h1 h2
      · rcases h with ⟨i, _, h⟩ | ⟨g, h⟩
        · exact r1.nof i a h
        · cases z : W1.F a with
          | none => rfl
          | some u =>
            rcases l.nw a u z with q | ⟨i, q⟩ | q
            · have q' : W.F a = some u := q
              rw [r.nof j a h] at q'; cases q'
            · exact (oth g h i q).elim
            · exact (had h q).elim
      · rcases h with ⟨i, _, h⟩ | ⟨g, h⟩
        · exact r1.alc i a h
        · obtain ⟨u, hu⟩ := r.alc j a h
          exact ⟨u, l.fr a u (oth g h) hu⟩
    · refine ⟨f.own, fun j a h hB => ?_, f.nof, f.alc, fun a h => ?_, fun z => by cases z⟩
      · rcases h with ⟨i, _, h⟩ | ⟨g, h⟩
        · exact f.dis i a h hB
        · rcases f.ft a hB with ⟨i, q⟩ | q
          · exact oth g h i q
          · exact had h q
      · rcases f.ft a h with ⟨i, q⟩ | q
        · obtain ⟨j', _, g⟩ := inA q; exact .inl ⟨j', g⟩
        · exact .inr q
  cases e : m (start' C.N.length ts) with
  | stuck => unfold callM at w; rw [e] at w; exact w.elim
  | ok o Γc =>
    cases o with
    | nx => exact fun σ' W' l r' => fin (.sh .non) Γc .non σ' W' (fun _ => False) (by rw [e]; rfl) l r' ⟨rfl, fun _ _ _ z => z, fun _ z => z.elim, fun _ z => z.elim, fun _ z => z.elim, fun _ _ z => z.elim⟩
    | rt t => exact fun v σ' W' B l r' f => fin t Γc v σ' W' B (by rw [e]; rfl) l r' f
    | bk => unfold callM at w; rw [e] at w; exact w.elim
    | ct => unfold callM at w; rw [e] at w; exact w.elim
end PM
set_option Elab.async false
set_option linter.all false
set_option maxRecDepth 100000
set_option maxHeartbeats 2000000
set_option autoImplicit false
namespace PM
open PySem PySem.Spec PyProof.Rows L2
/-- a def that is known by its mirror m: n parameters, statics C -/
structure FnK (G : Gb) (k : Nat) (f : Addr) (n : Nat) (C : Ct) (m : M Out) : Prop where
  ex : ∃ fd ps, FnG G k f fd ps (fsp G C m) ∧ BindsAll fd ps ∧ ps.length = n
  kp : PySem.W.keepIn G.K (.ref f) = true
theorem FnK.mono {G : Gb} {j k : Nat} {f : Addr} {n : Nat} {C : Ct} {m : M Out} (h : FnK G j f n C m) (l : j ≤ k) : FnK G k f n C m := by
  obtain ⟨fd, ps, F, r⟩ := h.ex
  exact ⟨⟨fd, ps, F.mono l, r⟩, h.kp⟩
/-- from the def as it stands -/
theorem fnK_of {G : Gb} {C : Ct} {nm qual : Str} {pa : Arguments} {bd : List Stmt} {ps : List Str} {dvs : List V} {kws : List (Str × V)} {f : Addr} {fd : FuncData} {m : M Out}
    (FD : FunD G.K nm qual pa bd C.sc dvs kws f fd) (S : FnScope C.N ps C.sc) (hf : C.fn = fun _ => true) (hb : SSs G C bd m) (hbd : BindsAll fd ps) : FnK G (C.k + 1) f ps.length C m :=
  ⟨⟨fd, ps, fnG_of FD S hf hb, hbd, rfl⟩, FD.kp⟩
/-- how such a def binds: the parameters alone -/
theorem fd_binds {K : PySem.W.Frag} {nm qual : Str} {pa : Arguments} {bd : List Stmt} {sc : Scope} {kws : List (Str × V)} {f : Addr} {fd : FuncData} {ps : List Str}
    (FD : FunD K nm qual pa bd sc [] kws f fd) (h : ∀ kV doc pm an cdv ct, BindsAll (PySem.W.fnOf nm qual pa bd sc .none kV doc pm an cdv ct) ps) : BindsAll fd ps := by
  obtain ⟨oc, od, dV, kV, doc, pm, an, cdv, ct, osl, rfl, _, _, hd, _⟩ := FD.ex
  rcases hd with ⟨_, rfl⟩ | ⟨h, _⟩
  · exact h kV doc pm an cdv ct
  · exact (h rfl).elim
section
variable {G : Gb} {C : Ct} {e o : Expr} {es : List Expr} {x mn : Str} {p pos apos : Pos} {js : List (Option Nat)}
structure SX (G : Gb) (C : Ct) (es : List Expr) (js : List (Option Nat)) (m : M (List D)) : Prop where
  go : ∀ X, OkX G C X → ∃ t, PA X es t ∧ ∀ ρ W σ Γ Q, Rl G.K C.io ρ W σ Γ → wp (m Γ) (fun ds Γ' => ∀ vs W', Le W W' → Rl G.K C.io ρ W' σ Γ' → Mix G.K W'.F σ js ds vs → Q vs W'.H) → t σ W.H Q
theorem sx_nil : SX G C [] [] (M.pure []) := ⟨fun X ok => ⟨tNil, pa_nil, fun ρ W σ Γ Q rl w => w [] W (Le.refl W) rl ⟨rfl, rfl⟩⟩⟩
theorem sx_val {m : M D} {n : M (List D)} (h : SE G C false e m) (k : SX G C es js n) (hp : Pln e) : SX G C (e :: es) (none :: js) (mCons m n) := ⟨fun X ok => by
  obtain ⟨t, pe, q⟩ := h.go X ok
  obtain ⟨u, pu, qu⟩ := k.go X ok
  refine ⟨_, pa_cons pe pu (hp X.env es), fun ρ W σ Γ Q rl w => q ρ W σ Γ _ rl (wp_mono (wp_bind.mp w) fun d Γ1 _ w1 v W1 l1 r1 vx => ?_)⟩
  refine qu ρ W1 σ Γ1 _ r1 (wp_mono (wp_bind.mp w1) fun ds Γ2 _ k2 vs W2 l2 r2 rs => ?_)
  exact k2 (v :: vs) W2 (Le.tr l1 l2) r2 ⟨d, ds, v, vs, rfl, rfl, rep_sub l2.ext _ _ vx, rs⟩⟩
def mLent (i : Nat) (n : M (List D)) : M (List D) := fun Γ => match Γ[i]? with
  | some (some _) => n Γ
  | _ => .stuck
theorem sx_lent (i : Nat) {n : M (List D)} (k : SX G C es js n) (hN : C.N[i]? = some x) (hv : Vis C.sc x) (hd : (x == ("__debug__" : Str)) = false) (hcd : (x == ("__classdict__" : Str)) = false) :
    SX G C (.Name x p :: es) (some i :: js) (mLent i n) := ⟨fun X ok => by
  obtain ⟨u, pu, qu⟩ := k.go X ok
  refine ⟨_, pa_cons (ok_pv ok hN hv hd hcd) pu (by rfl), fun ρ W σ Γ Q rl w => ?_⟩
  unfold mLent at w
  split at w
  · rename_i t q
    obtain ⟨v, e1, ow⟩ := rl.slot i t q
    exact ⟨v, e1, qu ρ W σ Γ _ rl (wp_mono w fun ds Γ2 _ k2 vs W2 l2 r2 rs => k2 (v :: vs) W2 l2 r2 ⟨v, vs, rfl, e1, rs⟩)⟩
  · exact w.elim⟩
def mCall (n : Nat) (m : M Out) (js : List (Option Nat)) (ma : M (List D)) : M T := ma.bind fun ds Γ => match argsOf js ds Γ with
  | some ts => callM n m js ts Γ
  | none => .stuck
@[simp] theorem mCall_ap (n : Nat) (m : M Out) (js : List (Option Nat)) (ma : M (List D)) (Γ : Sl) : mCall n m js ma Γ = (ma Γ).bind (fun ds Γ1 => (match argsOf js ds Γ1 with
  | some ts => callM n m js ts Γ1
  | none => .stuck)) := rfl
theorem mix_len {K : PySem.W.Frag} {F : Hp} {σ : L2.St} : ∀ {js : List (Option Nat)} {ds : List D} {vs : List V}, Mix K F σ js ds vs → vs.length = js.length
  | [], _, _, ⟨_, e⟩ => by rw [e]; rfl
  | none :: js, _, _, ⟨d, ds', v, vs', e1, e2, r, h⟩ => by rw [e2, List.length_cons, mix_len h]; rfl
  | some j :: js, _, _, ⟨v, vs', e1, e2, h⟩ => by rw [e1, List.length_cons, mix_len h]; rfl
/-- behind the arguments: the call -/
theorem mix_call {Cc : Ct} {io : List Nat} {ρ : List (Nat × V)} {W W1 : Wd} {σ : L2.St} {Γ1 : Sl} {m : M Out} {ds : List D} {vs : List V} {Q : VK} (l1 : Le W W1) (r1 : Rl G.K io ρ W1 σ Γ1)
    (ho : Once js) (hio : ∀ i j : Nat, js[i]? = some (some j) → i ∈ Cc.io) (hn : js.length ≤ Cc.N.length) (hm : Mix G.K W1.F σ js ds vs)
    (w : wp (match argsOf js ds Γ1 with | some ts => callM Cc.N.length m js ts Γ1 | none => R.stuck) (fun t Γ' => ∀ v W' B, Le W W' → Rl G.K io ρ W' σ Γ' → Fre G.K false W W' t v B → Q v W'.H)) : fsp G Cc m vs W1.H Q := by
  cases ha : argsOf js ds Γ1 with
  | none => rw [ha] at w; exact w.elim
  | some ts =>
    rw [ha] at w
    exact call_rl r1 ho hio hn hm ha (wp_mono w fun t Γ' _ k v W' B l r f => k v W' B (l1.tr l) r (Fre.pre (b := false) l1 f))
theorem so_call {Cc : Ct} {m : M Out} {ma : M (List D)} {f : Addr} {k : Nat} (F : FnK G k f js.length Cc m) (hk : k ≤ C.k) (hm : G.mg x = some (.ref f)) (hx : C.sc.names.lookup x = some .globalImplicit) (ha : SX G C (e :: es) js ma)
    (ho : Once js) (hio : ∀ i j : Nat, js[i]? = some (some j) → i ∈ Cc.io) (hn : js.length ≤ Cc.N.length) (hd : (x == ("__debug__" : Str)) = false) (hp : Pln e) (hpl : ∀ env, (backTo pos (starEach es env)).any (·.1) = false) :
    SO G C false (.Call (.Name x p) (e :: es) [] pos) (mCall Cc.N.length m js ma) := ⟨fun z => (by cases z), fun X ok => by
  obtain ⟨t, pt, q⟩ := ha.go X ok
  have kp := F.kp
  obtain ⟨fd, ps, F, hb, hl⟩ := F.ex
  have hg := ok.g
  subst hg
  refine ⟨_, pe_g (F.mono hk) ok.room ok.gd (by show X.env.scope.names.lookup x = _; rw [ok.es]; exact hx) hm ?_ hb pt hd (hp X.env es) (hpl X.env), fun ρ W σ Γ Q rl w => ?_⟩
  · exact kp
  · refine q ρ W σ Γ _ rl (wp_mono (wp_bind.mp w) fun ds Γ1 _ w1 vs W1 l1 r1 mx => ⟨by rw [hl]; exact mix_len mx, ?_⟩)
    exact mix_call l1 r1 ho hio hn mx w1⟩
/-! ### o.m(..) -/
def insOk (c mn : Str) : D → Bool
  | .ins c' fs => decide (c' = c) && (fs.lookup mn).isNone
  | _ => false
theorem repf_lookup {K : PySem.W.Frag} {F : Hp} {f : Str} : ∀ {fs : List (Str × D)} {gs : List (Str × V)}, repf K F fs gs → (fs.lookup f = none → gs.lookup f = none) ∧ ∀ d, fs.lookup f = some d → ∃ v, gs.lookup f = some v ∧ rep K F d v
  | [], gs, h => by rw [show gs = [] from h]; exact ⟨fun _ => rfl, fun d e => by cases e⟩
  | (g, x) :: fs, gs, h => by
    obtain ⟨w, ws, rfl, a, r⟩ := h
    obtain ⟨k1, k2⟩ := repf_lookup (f := f) r
    rw [List.lookup_cons, List.lookup_cons]
    cases f == g with
    | true => exact ⟨fun e => (by cases e), fun d e => (by cases e; exact ⟨w, rfl, a⟩)⟩
    | false => exact ⟨k1, k2⟩
theorem insOk_rep {K : PySem.W.Frag} {F H : Hp} {c mn : Str} {d : D} {v : V} (s : Sub F H) (h : rep K F d v) (e : insOk c mn d = true) : ∃ a dx gs, v = .ref a ∧ H a = some (.ins (He.ga K c) dx gs) ∧ gs.lookup mn = none := by
  cases d with
  | ins c' fs =>
    obtain ⟨p, dx, gs, rfl, a, r⟩ := h
    obtain ⟨e1, e2⟩ := Bool.and_eq_true_iff.mp (show (decide (c' = c) && (fs.lookup mn).isNone) = true from e)
    obtain rfl := of_decide_eq_true e1
    exact ⟨p, dx, gs, rfl, s _ _ a, (repf_lookup r).1 (Option.isNone_iff_eq_none.mp e2)⟩
  | _ => cases e
def mMeth (c mn : Str) (n : Nat) (m : M Out) (js : List (Option Nat)) (mo : M D) (ma : M (List D)) : M T := mo.bind fun d => if insOk c mn d = true then ma.bind (fun ds Γ => match argsOf (none :: js) (d :: ds) Γ with
  | some ts => callM n m (none :: js) ts Γ
  | none => .stuck) else fun _ => .stuck
@[simp] theorem mMeth_ap (c mn : Str) (n : Nat) (m : M Out) (js : List (Option Nat)) (mo : M D) (ma : M (List D)) (Γ : Sl) : mMeth c mn n m js mo ma Γ = (mo Γ).bind (fun d Γ1 => (if insOk c mn d = true then ma.bind (fun ds Γ => match argsOf (none :: js) (d :: ds) Γ with
  | some ts => callM n m (none :: js) ts Γ
  | none => .stuck) else fun _ => .stuck) Γ1) := rfl
theorem so_meth {Cc : Ct} {m : M Out} {mo : M D} {ma : M (List D)} {f : Addr} {k : Nat} {c : Str} (F : FnK G k f (js.length + 1) Cc m) (hk : k ≤ C.k) (hc : Cls G.K (He.ga G.K c)) (hm : Meth G.K (He.ga G.K c) mn f) (h : SE G C false o mo) (ha : SX G C (e :: es) js ma)
    (ho : Once js) (hio : ∀ i j : Nat, (none :: js)[i]? = some (some j) → i ∈ Cc.io) (hn : js.length + 1 ≤ Cc.N.length) (hp : Pln e) (hpl : ∀ env, (backTo pos (starEach es env)).any (·.1) = false) (hf : MethForm o mn apos pos (e :: es)) :
    SO G C false (.Call (.Attribute o mn apos) (e :: es) [] pos) (mMeth c mn Cc.N.length m js mo ma) := ⟨fun z => (by cases z), fun X ok => by
  obtain ⟨t, pt, q⟩ := ha.go X ok
  obtain ⟨to, po, qo⟩ := h.go X ok
  obtain ⟨fd, ps, F, hb, hl⟩ := F.ex
  have hg := ok.g
  subst hg
  refine ⟨_, pe_gm po hc hm (F.mono hk) ok.room ok.gd hb pt (hp X.env es) (hpl X.env) hf, fun ρ W σ Γ Q rl w => ?_⟩
  refine qo ρ W σ Γ _ rl (wp_mono (wp_bind.mp w) fun d Γ1 _ w1 v W1 l1 r1 rp => ?_)
  split at w1
  · rename_i hi
    obtain ⟨a, dx, gs, rfl, ea, lk⟩ := insOk_rep r1.sub rp hi
    refine ⟨a, dx, gs, rfl, ea, lk, q ρ W1 σ Γ1 _ r1 (wp_mono (wp_bind.mp w1) fun ds Γ2 _ w2 vs W2 l2 r2 mx => ⟨by rw [hl, mix_len mx], ?_⟩)⟩
    have ho' : Once (none :: js) := fun i i' j h1 h2 => by
      cases i with
      | zero => cases h1
      | succ i => cases i' with
        | zero => cases h2
        | succ i' => exact congrArg Nat.succ (ho i i' j h1 h2)
    exact mix_call (js := none :: js) (Le.tr l1 l2) r2 ho' hio hn ⟨d, ds, _, vs, rfl, rfl, rep_sub l2.ext _ _ rp, mx⟩ w2
  · exact w1.elim⟩
theorem so_meth0 {Cc : Ct} {m : M Out} {mo : M D} {f : Addr} {k : Nat} {c : Str} (F : FnK G k f 1 Cc m) (hk : k ≤ C.k) (hc : Cls G.K (He.ga G.K c)) (hm : Meth G.K (He.ga G.K c) mn f) (h : SE G C false o mo)
    (hn : 1 ≤ Cc.N.length) (hf : MethForm o mn apos pos []) :
    SO G C false (.Call (.Attribute o mn apos) [] [] pos) (mMeth c mn Cc.N.length m [] mo (M.pure [])) := ⟨fun z => (by cases z), fun X ok => by
  obtain ⟨to, po, qo⟩ := h.go X ok
  obtain ⟨fd, ps, F, hb, hl⟩ := F.ex
  have hg := ok.g
  subst hg
  refine ⟨_, pe_gm0 po hc hm (F.mono hk) ok.room ok.gd hb hf, fun ρ W σ Γ Q rl w => ?_⟩
  refine qo ρ W σ Γ _ rl (wp_mono (wp_bind.mp w) fun d Γ1 _ w1 v W1 l1 r1 rp => ?_)
  split at w1
  · rename_i hi
    obtain ⟨a, dx, gs, rfl, ea, lk⟩ := insOk_rep r1.sub rp hi
    exact ⟨a, dx, gs, rfl, ea, lk, hl.symm, mix_call (js := [none]) (ds := [d]) l1 r1 (fun i i' j h1 h2 => by cases i <;> simp at h1) (fun i j h => by cases i <;> simp at h) hn ⟨d, [], _, [], rfl, rfl, rp, rfl, rfl⟩ w1⟩
  · exact w1.elim⟩
/-! ### o.f, a property -/
theorem so_prop {Cc : Ct} {m : M Out} {mo : M D} {f q : Addr} {k : Nat} {c : Str} (F : FnK G k f 1 Cc m) (hk : k + 1 ≤ C.k) (hc : Cls G.K (He.ga G.K c)) (hm : PropOf G.K (He.ga G.K c) mn q f) (h : SE G C false o mo)
    (hn : 1 ≤ Cc.N.length) (hf : ∀ env, attributeBase o mn env (eval o env) = eval o env) :
    SO G C false (.Attribute o mn pos) (mMeth c mn Cc.N.length m [] mo (M.pure [])) := ⟨fun z => (by cases z), fun X ok => by
  obtain ⟨to, po, qo⟩ := h.go X ok
  obtain ⟨fd, ps, F, hb, hl⟩ := F.ex
  have hg := ok.g
  subst hg
  refine ⟨_, pe_gp po hc hm F (ok.room.mono hk) ok.gd hb hl ok.nx (hf X.env), fun ρ W σ Γ Q rl w => ?_⟩
  refine qo ρ W σ Γ _ rl (wp_mono (wp_bind.mp w) fun d Γ1 _ w1 v W1 l1 r1 rp => ?_)
  split at w1
  · rename_i hi
    obtain ⟨a, dx, gs, rfl, ea, lk⟩ := insOk_rep r1.sub rp hi
    exact ⟨a, dx, gs, rfl, ea, mix_call (js := [none]) (ds := [d]) l1 r1 (fun i i' j h1 h2 => by cases i <;> simp at h1) (fun i j h => by cases i <;> simp at h) hn ⟨d, [], _, [], rfl, rfl, rp, rfl, rfl⟩ w1⟩
  · exact w1.elim⟩
/-- o.f, a field -/
def dFld (f : Str) : D → Option D
  | .ins _ fs => fs.lookup f
  | _ => none
def clsOf : D → Option Str
  | .ins c _ => some c
  | _ => none
def mFld (c f : Str) (m : M D) : M D := m.bind fun d => opt (if clsOf d = some c then dFld f d else none)
@[simp] theorem mFld_ap (c f : Str) (m : M D) (Γ : Sl) : mFld c f m Γ = (m Γ).bind fun d Γ1 => opt (if clsOf d = some c then dFld f d else none) Γ1 := rfl
theorem se_fld {b : Bool} {m : M D} {c : Str} (hc : Cls G.K (He.ga G.K c)) (hna : NoAttr G.K (He.ga G.K c) mn) (h : SE G C b o m) (hf : ∀ env, attributeBase o mn env (eval o env) = eval o env) : SE G C b (.Attribute o mn pos) (mFld c mn m) := ⟨fun z => pu_bind (h.pu z) fun c => pu_opt, fun X ok => by
  obtain ⟨t, pe, q⟩ := h.go X ok
  have hg := ok.g
  subst hg
  refine ⟨_, pe_fld pe (hf X.env), fun ρ W σ Γ Q rl w => q ρ W σ Γ _ rl (wp_mono (wp_bind.mp w) fun d Γ1 _ w1 v W1 l1 r1 rp => ?_)⟩
  split at w1
  · rename_i hcl
    cases d with
    | ins c' fs =>
      obtain rfl : c' = c := Option.some.inj hcl
      obtain ⟨p, dx, gs, rfl, ea, r⟩ := rp
      cases z : fs.lookup mn with
      | none => simp only [dFld] at w1; rw [z] at w1; exact w1.elim
      | some d =>
        simp only [dFld] at w1
        rw [z] at w1
        obtain ⟨u, e1, rp⟩ := (repf_lookup r).2 d z
        exact ⟨p, _, dx, gs, u, rfl, r1.sub _ _ ea, hc, hna, e1, w1 u W1 l1 r1 rp⟩
    | _ => cases hcl
  · exact w1.elim⟩
end
end PM
set_option Elab.async false
set_option linter.all false
set_option maxRecDepth 100000
set_option maxHeartbeats 2000000
set_option autoImplicit false
namespace PM
open PySem PySem.Spec PyProof.Rows L2
section
variable {G : Gb} {C : Ct} {b : Bool} {e o a : Expr} {es : List Expr} {x mn : Str} {p pos apos : Pos}
def madeOf : Option (T × Sl) → Option T
  | some (.sh .non, Γc) => Γc.head?.join
  | _ => none
def mMake (c : Str) (n : Nat) (m : M Out) (ma : M (List D)) : M T := ma.bind fun ds => opt (madeOf (outOf (m (start' n (.ob c [] :: ds.map .sh)))))
@[simp] theorem mMake_ap (c : Str) (n : Nat) (m : M Out) (ma : M (List D)) (Γ : Sl) : mMake c n m ma Γ = (ma Γ).bind fun ds Γ1 => opt (madeOf (outOf (m (start' n (.ob c [] :: ds.map .sh))))) Γ1 := rfl
theorem ok_gl {X : Cx} (ok : OkX G C X) (hx : C.sc.names.lookup x = some .globalImplicit) : Gl X x := by
  show X.env.scope.names.lookup x = _
  rw [ok.es]; exact hx
theorem so_make {Cc : Ct} {m : M Out} {ma : M (List D)} {f : Addr} {k : Nat} {c : Str} (F : FnK G k f (es.length + 2) Cc m) (hk : k + 1 ≤ C.k) (hM : Mk G.K (He.ga G.K c) f) (hm : G.mg x = some (.ref (He.ga G.K c))) (hx : C.sc.names.lookup x = some .globalImplicit)
    (ha : SA G C b (e :: es) ma) (hla : ∀ Γ ds Γ', ma Γ = .ok ds Γ' → ds.length = es.length + 1) (hio : 0 ∈ Cc.io) (hn : es.length + 2 ≤ Cc.N.length) (hd : (x == ("__debug__" : Str)) = false) (hp : Pln e) (hpl : ∀ env, (backTo pos (starEach es env)).any (·.1) = false) :
    SO G C b (.Call (.Name x p) (e :: es) [] pos) (mMake c Cc.N.length m ma) := ⟨fun z => pu_bind (ha.pu z) fun c => pu_opt, fun X ok => by
  obtain ⟨t, pt, q⟩ := ha.go X ok
  obtain ⟨fd, ps, F, hb, hl⟩ := F.ex
  have hg := ok.g
  subst hg
  refine ⟨_, pe_gk hM F (ok.room.mono hk) ok.gd (ok_gl ok hx) hm hb pt hd (hp X.env es) (hpl X.env), fun ρ W σ Γ Q rl w => ?_⟩
  refine q ρ W σ Γ _ rl (wp_mono (wp_bind.mp w) fun ds Γ1 em w1 vs W1 l1 r1 rs => ?_)
  have hlen := hla _ _ _ em
  have hvs := reps_len rs
  refine ⟨by rw [hl]; omega, fun y dx hy hdx hne => ?_⟩
  have nx : ∀ {a o}, W1.H a = some o → a ≠ y ∧ a ≠ dx := fun h => ⟨ne_of_none h hy, ne_of_none h hdx⟩
  have sH : Sub W1.H (upd (upd W1.H dx (.own y)) y (.ins (He.ga X.K c) dx [])) := fun a o h => by rw [upd_ne (nx h).1, upd_ne (nx h).2]; exact h
  have bH : ∀ a, upd (upd W1.H dx (.own y)) y (.ins (He.ga X.K c) dx []) a = none → W1.H a = none := fun a h => by
    cases z : W1.H a with
    | none => rfl
    | some o => rw [sH a o z] at h; cases h
  let Wc : Wd := ⟨W1.F, upd (upd W1.H dx (.own y)) y (.ins (He.ga X.K c) dx []), fun i a => i = 0 ∧ a = y⟩
  have rc : Rl X.K Cc.io [(0, V.ref y)] Wc (start Cc.N (.ref y :: vs)) (start' Cc.N.length (.ob c [] :: ds.map .sh)) := by
    refine ⟨r1.sub.tr sH, ?_, fun i t e => ?_, fun i i' a n h1 h2 => n (h1.1.trans h2.1.symm), fun i a h => ?_, fun i a h => ?_, fun q hq => ?_⟩
    · unfold L2.start start'
      simp only [List.length_append, List.length_map, List.length_replicate, List.length_cons]
      omega
    · have e' := start_get e
      cases i with
      | zero =>
        obtain rfl : T.ob c [] = t := by simpa using e'
        exact ⟨.ref y, rfl, y, dx, [], rfl, ⟨rfl, rfl⟩, upd_same, rfl⟩
      | succ i =>
        have e2 : (ds.map T.sh)[i]? = some t := by simpa using e'
        rw [List.getElem?_map] at e2
        obtain ⟨d, e3, rfl⟩ := Option.map_eq_some_iff.mp e2
        obtain ⟨v, e4, rp⟩ := reps_get rs e3
        refine ⟨v, ?_, rp⟩
        have hi : i < vs.length := (List.getElem?_eq_some_iff.mp e4).1
        unfold L2.start
        rw [List.getElem?_append_left (by simp; omega), List.getElem?_map]
        show Option.map some ((V.ref y :: vs)[i + 1]?) = _
        rw [List.getElem?_cons_succ, e4]; rfl
    · obtain ⟨_, rfl⟩ := h
      exact none_of_sub r1.sub hy
    · obtain ⟨_, rfl⟩ := h
      exact ⟨_, upd_same⟩
    · obtain rfl : q = (0, V.ref y) := List.mem_singleton.mp hq
      exact ⟨hio, rfl⟩
  have fin : ∀ (Γc : Sl) (σc : L2.St) (W2 : Wd), outOf (m (start' Cc.N.length (.ob c [] :: ds.map .sh))) = some (.sh .non, Γc) → Le Wc W2 → Rl X.K Cc.io [(0, V.ref y)] W2 σc Γc → Q (.ref y) W2.H := by
    intro Γc σc W2 e l r2
    rw [e] at w1
    cases z : Γc.head?.join with
    | none => simp only [madeOf] at w1; rw [z] at w1; exact w1.elim
    | some t =>
      simp only [madeOf] at w1
      rw [z] at w1
      have z0 : Γc[0]? = some (some t) := by
        cases Γc with
        | nil => cases z
        | cons u us => simp at z; simp [z]
      obtain ⟨v0, g1, ow⟩ := r2.slot 0 t z0
      have g2 := (r2.fix _ (List.mem_singleton.mpr rfl)).2
      rw [g2] at g1; cases g1
      have had : ∀ i a, W1.A i a → ¬ W2.A 0 a := fun i a h h2 => by
        obtain ⟨u, hu⟩ := r1.alc i a h
        rcases l.ft 0 a h2 with ⟨j, _, rfl⟩ | q
        · rw [hy] at hu; cases hu
        · rw [bH a q] at hu; cases hu
      have new : ∀ a, W2.A 0 a → W1.H a = none := fun a h2 => by
        rcases l.ft 0 a h2 with ⟨j, _, rfl⟩ | q
        · exact hy
        · exact bH a q
      have l0 : Le0 W1 ⟨W2.F, W2.H, W1.A⟩ := ⟨l.ext, fun a o h => l.fr a o (fun i hi => (nx h).1 hi.2) (sH a o h), rfl, fun a o h => by
        rcases l.nw a o h with q | ⟨j, _, rfl⟩ | q
        · exact .inl q
        · exact .inr hy
        · exact .inr (bH a q)⟩
      refine w1 (.ref y) ⟨W2.F, W2.H, W1.A⟩ (W2.A 0) (l1.tr (Lw.of l0)) (r1.more l0 r2.sub) (Fre.back l1 ⟨ow, had, r2.nof 0, r2.alc 0, fun a h => .inr (new a h), fun _ a h => new a h⟩)
  refine ⟨_, Wc, _, rfl, rc, ?_⟩
  cases e : m (start' Cc.N.length (.ob c [] :: ds.map .sh)) with
  | stuck => rw [e] at w1; exact w1.elim
  | ok ou Γc =>
    cases ou with
    | nx => exact fun σ' W2 l r2 => ⟨rfl, fin Γc σ' W2 (by rw [e]; rfl) l r2⟩
    | bk => rw [e] at w1; exact w1.elim
    | ct => rw [e] at w1; exact w1.elim
    | rt t =>
      intro v σ' W2 B l r2 f
      cases t with
      | sh d =>
        cases d with
        | non => exact ⟨f.own, fin Γc σ' W2 (by rw [e]; rfl) l r2⟩
        | _ => rw [e] at w1; exact w1.elim
      | _ => rw [e] at w1; exact w1.elim⟩
/-! ### len and == by the class's own -/
def isC (c : Str) (d : D) : Bool := decide (clsOf d = some c)
theorem isC_rep {K : PySem.W.Frag} {F H : Hp} {c : Str} {d : D} {v : V} (s : Sub F H) (h : rep K F d v) (e : isC c d = true) : ∃ a dx gs, v = .ref a ∧ H a = some (.ins (He.ga K c) dx gs) := by
  cases d with
  | ins c' fs =>
    obtain ⟨p, dx, gs, rfl, a, r⟩ := h
    obtain rfl : c' = c := Option.some.inj (of_decide_eq_true e)
    exact ⟨p, dx, gs, rfl, s _ _ a⟩
  | _ => exact absurd (of_decide_eq_true e) (by simp [clsOf])
def lenT : T → Option D
  | .sh (.int n) => if 0 ≤ n ∧ n.natAbs < 9223372036854775808 then some (.int n) else none
  | _ => none
def blT : T → Option D
  | .sh (.bl n) => some (.bl n)
  | _ => none
def mLenOwn (c : Str) (n : Nat) (m : M Out) (mo : M D) : M D := mo.bind fun d => if isC c d = true then (callM n m [none] [.sh d]).bind (fun t => opt (lenT t)) else fun _ => .stuck
@[simp] theorem mLenOwn_ap (c : Str) (n : Nat) (m : M Out) (mo : M D) (Γ : Sl) : mLenOwn c n m mo Γ = (mo Γ).bind fun d Γ1 => (if isC c d = true then (callM n m [none] [.sh d]).bind (fun t => opt (lenT t)) else fun _ => .stuck) Γ1 := rfl
theorem once1 : Once [none] := fun i i' j h1 h2 => by cases i <;> simp at h1
theorem once2 : Once [none, none] := fun i i' j h1 h2 => by
  cases i with
  | zero => simp at h1
  | succ i => cases i <;> simp at h1
theorem io1 {l : List Nat} : ∀ i j : Nat, ([none] : List (Option Nat))[i]? = some (some j) → i ∈ l := fun i j h => by cases i <;> simp at h
theorem io2 {l : List Nat} : ∀ i j : Nat, ([none, none] : List (Option Nat))[i]? = some (some j) → i ∈ l := fun i j h => by
  cases i with
  | zero => simp at h
  | succ i => cases i <;> simp at h
theorem se_lenOwn {Cc : Ct} {m : M Out} {mo : M D} {f : Addr} {k : Nat} {c : Str} (F : FnK G k f 1 Cc m) (hk : k + 1 ≤ C.k) (hs : PySem.W.findIn G.K (.ref (He.ga G.K c)) "__len__" = some (some (.ref f))) (hf : PySem.W.isFn G.K (.ref f) = true)
    (hx : C.sc.names.lookup ("len" : Str) = some .globalImplicit) (hm : G.mg "len" = none) (h : SE G C false e mo) (hn : 1 ≤ Cc.N.length) (hp : Pln e) :
    SE G C false (.Call (.Name "len" p) [e] [] pos) (mLenOwn c Cc.N.length m mo) := ⟨fun z => (by cases z), fun X ok => by
  obtain ⟨t, pt, q⟩ := h.go X ok
  obtain ⟨fd, ps, F, hb, hl⟩ := F.ex
  have hg := ok.g
  subst hg
  refine ⟨_, pe_callB (cr_lenG F (ok.room.mono hk) ok.gd hb hl hs hf) (ok_gl ok hx) hm rfl (pa_cons pt pa_nil (hp X.env [])) (by decide) (by decide) (hp X.env []) rfl, fun ρ W σ Γ Q rl w => ?_⟩
  refine q ρ W σ Γ _ rl (wp_mono (wp_bind.mp w) fun d Γ1 em w1 v W1 l1 r1 rp => ?_)
  split at w1
  · rename_i hi
    obtain ⟨a, dx, gs, rfl, ea⟩ := isC_rep r1.sub rp hi
    refine ⟨a, dx, gs, rfl, ea, ?_⟩
    refine call_rl (js := [none]) (ds := [d]) (ts := [.sh d]) r1 once1 io1 hn ⟨d, [], _, [], rfl, rfl, rp, rfl, rfl⟩ rfl (wp_mono (wp_bind.mp w1) fun t Γ2 _ w2 v W2 B l2 r2 fr => ?_)
    cases z : lenT t with
    | none => rw [z] at w2; exact w2.elim
    | some d2 =>
      rw [z] at w2
      unfold lenT at z
      split at z
      · rename_i n _
        split at z
        · rename_i hh
          cases z
          have e : v = .int n := fr.own
          exact ⟨n, e, hh.1, (by have := hh.2; have := hh.1; omega), w2 v W2 (Le.tr l1 l2) r2 e⟩
        · cases z
      · cases z
  · exact w1.elim⟩
def mEqOwn (c : Str) (n : Nat) (m : M Out) (mt : M (D × D)) : M D := mt.bind fun q => if (isC c q.1 && isC c q.2) = true then (callM n m [none, none] [.sh q.1, .sh q.2]).bind (fun t => opt (blT t)) else fun _ => .stuck
@[simp] theorem mEqOwn_ap (c : Str) (n : Nat) (m : M Out) (mt : M (D × D)) (Γ : Sl) : mEqOwn c n m mt Γ = (mt Γ).bind fun q Γ1 => (if (isC c q.1 && isC c q.2) = true then (callM n m [none, none] [.sh q.1, .sh q.2]).bind (fun t => opt (blT t)) else fun _ => .stuck) Γ1 := rfl
theorem isC_vw {K : PySem.W.Frag} {F H : Hp} {c : Str} {d : D} {v : V} (h : vw K F H d v) (e : isC c d = true) : rep K F d v := by
  cases d with
  | ins c' fs => exact h
  | _ => exact absurd (of_decide_eq_true e) (by simp [clsOf])
theorem se_eqOwn {Cc : Ct} {m : M Out} {mt : M (D × D)} {f : Addr} {k : Nat} {c : Str} (F : FnK G k f 2 Cc m) (hk : k ≤ C.k) (hs : PySem.W.findIn G.K (.ref (He.ga G.K c)) "__eq__" = some (some (.ref f))) (hf : PySem.W.isFn G.K (.ref f) = true)
    (h : Two G C false a e mt) (hn : 2 ≤ Cc.N.length) (hm : behindInMarks .Eq e = false) :
    SE G C false (.Compare a [.Eq] [e] pos) (mEqOwn c Cc.N.length m mt) := ⟨fun z => (by cases z), fun X ok => by
  obtain ⟨ta, tb, pa, pb, q⟩ := h.go X ok
  obtain ⟨fd, ps, F, hb, hl⟩ := F.ex
  have hg := ok.g
  subst hg
  refine ⟨_, pe_cmpR (op_eqOwn F (ok.room.mono hk) ok.gd hb hl hs hf) pa pb hm, fun ρ W σ Γ Q rl w => ?_⟩
  refine q ρ W σ Γ _ rl (wp_mono (wp_bind.mp w) fun d Γ1 em w1 v u W1 l1 r1 vx vy => ?_)
  split at w1
  · rename_i hi
    obtain ⟨hi1, hi2⟩ := Bool.and_eq_true_iff.mp hi
    have rx := isC_vw vx hi1
    have ry := isC_vw vy hi2
    obtain ⟨a, dx, gs, rfl, ea⟩ := isC_rep r1.sub rx hi1
    obtain ⟨a', dx', gs', rfl, ea'⟩ := isC_rep r1.sub ry hi2
    refine ⟨a, a', dx, dx', gs, gs', rfl, rfl, ea, ea', ?_⟩
    refine call_rl (js := [none, none]) (ds := [d.1, d.2]) (ts := [.sh d.1, .sh d.2]) r1 once2 io2 hn ⟨_, _, _, _, rfl, rfl, rx, _, _, _, _, rfl, rfl, ry, rfl, rfl⟩ rfl (wp_mono (wp_bind.mp w1) fun t Γ2 _ w2 v W2 B l2 r2 fr => ?_)
    cases z : blT t with
    | none => rw [z] at w2; exact w2.elim
    | some d2 =>
      rw [z] at w2
      unfold blT at z
      split at z
      · rename_i n _
        cases z
        have e : v = .bl n := fr.own
        exact ⟨⟨n, e⟩, w2 v W2 (Le.tr l1 l2) r2 e⟩
      · cases z
  · exact w1.elim⟩
/-! ### f(k = e) -/
def mCallKw (n : Nat) (m : M Out) (mo : M D) : M T := mo.bind fun d => callM n m [none] [.sh d]
@[simp] theorem mCallKw_ap (n : Nat) (m : M Out) (mo : M D) (Γ : Sl) : mCallKw n m mo Γ = (mo Γ).bind fun d Γ1 => callM n m [none] [.sh d] Γ1 := rfl
/-- it binds by name, too -/
structure FnKw (G : Gb) (k : Nat) (f : Addr) (kw : Str) (C : Ct) (m : M Out) : Prop where
  ex : ∃ fd, FnG G k f fd [kw] (fsp G C m) ∧ ∀ u : Value, bindArgs fd ⟨[], [(kw, u)]⟩ = pure ([kw].zip [u])
  kp : PySem.W.keepIn G.K (.ref f) = true
theorem so_callkw {Cc : Ct} {m : M Out} {mo : M D} {f : Addr} {k : Nat} {kw : Str} {p2 : Pos} (F : FnKw G k f kw Cc m) (hk : k ≤ C.k) (hm : G.mg x = some (.ref f)) (hx : C.sc.names.lookup x = some .globalImplicit) (h : SE G C false e mo)
    (hn : 1 ≤ Cc.N.length) (hd : (x == ("__debug__" : Str)) = false) : SO G C false (.Call (.Name x p) [] [⟨some kw, e, p2⟩] pos) (mCallKw Cc.N.length m mo) := ⟨fun z => (by cases z), fun X ok => by
  obtain ⟨t, pt, q⟩ := h.go X ok
  have kp := F.kp
  obtain ⟨fd, F, hb⟩ := F.ex
  have hg := ok.g
  subst hg
  refine ⟨_, pe_gkw (F.mono hk) ok.room ok.gd (ok_gl ok hx) hm kp hb rfl pt hd, fun ρ W σ Γ Q rl w => ?_⟩
  refine q ρ W σ Γ _ rl (wp_mono (wp_bind.mp w) fun d Γ1 em w1 v W1 l1 r1 rp => ?_)
  exact call_rl (js := [none]) (ds := [d]) (ts := [.sh d]) r1 once1 io1 hn ⟨d, [], _, [], rfl, rfl, rp, rfl, rfl⟩ rfl (wp_mono w1 fun t Γ2 _ k v W2 B l2 r2 fr => k v W2 B (Le.tr l1 l2) r2 (Fre.pre (b := false) l1 fr))⟩
end
end PM
set_option Elab.async false
set_option linter.all false
set_option maxRecDepth 100000
set_option maxHeartbeats 2000000
set_option autoImplicit false
namespace PM
open PySem PySem.Spec PyProof.Rows L2
/-! ### several own things -/
structure Fres (K : PySem.W.Frag) (b : Bool) (W W' : Wd) (ts : List T) (vs : List V) (B : Addr → Prop) : Prop where
  own : owns K W'.F W'.H ts vs B
  dis : ∀ i a, W'.A i a → B a → False
  nof : ∀ a, B a → W'.F a = none
  alc : ∀ a, B a → ∃ o, W'.H a = some o
  ft : ∀ a, B a → (∃ j, W.A j a) ∨ W.H a = none
  nw : b = true → ∀ a, B a → W.H a = none
theorem lw_back {b : Bool} {W W1 : Wd} (l : Lw b W W1) {a : Addr} (h : (∃ j, W1.A j a) ∨ W1.H a = none) : (∃ j, W.A j a) ∨ W.H a = none := by
  rcases h with ⟨j, hj⟩ | q
  · exact l.le.ft j a hj
  · exact l.le.back q
theorem lw_new {W W1 : Wd} (l : Lw true W W1) {a : Addr} (h : W1.H a = none) : W.H a = none := by
  have l' : Le0 W W1 := l
  cases q : W.H a with
  | none => rfl
  | some o => rw [l'.fr _ _ q] at h; cases h
section
variable {K : PySem.W.Frag} {b : Bool} {W W1 W2 : Wd} {t : T} {ts : List T} {v : V} {vs : List V} {B B1 B2 : Addr → Prop}
theorem Fres.pre (l : Lw b W W1) (f : Fres K b W1 W2 ts vs B) : Fres K b W W2 ts vs B :=
  ⟨f.own, f.dis, f.nof, f.alc, fun a h => lw_back l (f.ft a h), fun e a h => by subst e; exact lw_new l (f.nw rfl a h)⟩
/-- what is one's own stays so over what comes behind -/
theorem Fre.keep (f : Fre K b W W1 t v B) (l : Le W1 W2) (hs : Sub W2.F W2.H) : Fre K b W W2 t v B ∧ ∀ a, ((∃ j, W1.A j a) ∨ W1.H a = none) → ¬ B a := by
  have nB : ∀ a, ((∃ j, W1.A j a) ∨ W1.H a = none) → ¬ B a := fun a h hB => by
    rcases h with ⟨j, hj⟩ | q
    · exact f.dis j a hj hB
    · obtain ⟨o, ho⟩ := f.alc a hB
      rw [q] at ho; cases ho
  have nA : ∀ a, B a → ∀ i, ¬ W1.A i a := fun a hB i hi => f.dis i a hi hB
  refine ⟨⟨own_sub l.ext t v B B (fun _ q => q) (fun a o hB h => l.fr a o (nA a hB) h) f.own, fun i a h hB => nB a (l.ft i a h) hB, fun a hB => ?_, fun a hB => ?_, f.ft, f.nw⟩, nB⟩
  · cases z : W2.F a with
    | none => rfl
    | some o =>
      rcases l.nw a o z with q | q
      · rw [f.nof a hB] at q; cases q
      · exact (nB a q hB).elim
  · obtain ⟨o, ho⟩ := f.alc a hB
    exact ⟨o, l.fr a o (nA a hB) ho⟩
theorem Fres.nil : Fres K b W W1 [] [] (fun _ => False) := ⟨rfl, fun _ _ _ z => z, fun _ z => z.elim, fun _ z => z.elim, fun _ z => z.elim, fun _ _ z => z.elim⟩
theorem Fres.cons (f : Fre K b W W1 t v B1) (l : Lw b W1 W2) (l0 : Lw b W W1) (hs : Sub W2.F W2.H) (g : Fres K b W1 W2 ts vs B2) : Fres K b W W2 (t :: ts) (v :: vs) (fun a => B1 a ∨ B2 a) := by
  obtain ⟨f2, nB⟩ := f.keep l.le hs
  refine ⟨⟨v, vs, B1, rfl, f2.own, fun _ q => .inl q, owns_sub Sub.rfl' ts vs B2 _ (fun a q => ⟨.inr q, nB a (g.ft a q)⟩) (fun _ _ _ q => q) g.own⟩, fun i a h q => q.elim (f2.dis i a h) (g.dis i a h), fun a q => q.elim (f2.nof a) (g.nof a), fun a q => q.elim (f2.alc a) (g.alc a),
    fun a q => q.elim (f2.ft a) fun q => lw_back l0 (g.ft a q), fun e a q => q.elim (f2.nw e a) fun q => by subst e; exact lw_new l0 (g.nw rfl a q)⟩
theorem Fres.head {us : List V} (f : Fres K b W W1 (t :: ts) us B) : ∃ v vs B1 B2, us = v :: vs ∧ Fre K b W W1 t v B1 ∧ Fres K b W W1 ts vs B2 ∧ ∀ a, B1 a → B2 a → False := by
  obtain ⟨v, vs, B1, rfl, o, m, r⟩ := f.own
  exact ⟨v, vs, B1, fun a => B a ∧ ¬ B1 a, rfl, ⟨o, fun i a h q => f.dis i a h (m a q), fun a q => f.nof a (m a q), fun a q => f.alc a (m a q), fun a q => f.ft a (m a q), fun e a q => f.nw e a (m a q)⟩,
    ⟨r, fun i a h q => f.dis i a h q.1, fun a q => f.nof a q.1, fun a q => f.alc a q.1, fun a q => f.ft a q.1, fun e a q => f.nw e a q.1⟩, fun a x y => y.2 x⟩
/-- a slot is given an own thing -/
theorem Rl.setOwn {io : List Nat} {ρ : List (Nat × V)} {σ : L2.St} {Γ : Sl} {i : Nat} (r : Rl K io ρ W1 σ Γ) (l : Le W W1) (f : Fre K b W W1 t v B) (hi : i < Γ.length) (hio : i ∉ io) :
    Rl K io ρ ⟨W1.F, W1.H, fun j a => if j = i then B a else W1.A j a⟩ (σ.set i (some v)) (Γ.set i (some t)) ∧ Le W ⟨W1.F, W1.H, fun j a => if j = i then B a else W1.A j a⟩ := by
  have at_i : ∀ a, (fun j a => if j = i then B a else W1.A j a) i a ↔ B a := fun a => by simp
  have at_j : ∀ j a, j ≠ i → ((fun j a => if j = i then B a else W1.A j a) j a ↔ W1.A j a) := fun j a n => by simp [n]
  refine ⟨⟨r.sub, by rw [List.length_set, List.length_set]; exact r.len, fun j t' e => ?_, fun j k a n x y => ?_, fun j a x => ?_, fun j a x => ?_, fun p hp => ?_⟩, ⟨l.ext, l.fr, fun j a x => ?_, l.nw⟩⟩
  · by_cases q : j = i
    · subst q
      rw [List.getElem?_set_self hi] at e
      cases e
      refine ⟨v, List.getElem?_set_self (by rw [← r.len]; exact hi), own_sub Sub.rfl' _ v B _ (fun a x => (at_i a).mpr x) (fun _ _ _ x => x) f.own⟩
    · rw [List.getElem?_set_ne (Ne.symm q)] at e
      obtain ⟨u, e1, o⟩ := r.slot j t' e
      exact ⟨u, by rw [List.getElem?_set_ne (Ne.symm q)]; exact e1, own_sub Sub.rfl' t' u _ _ (fun a x => (at_j j a q).mpr x) (fun _ _ _ x => x) o⟩
  · by_cases q : j = i
    · subst q
      have x' := (at_i a).mp x
      have y' := (at_j k a (Ne.symm n)).mp y
      exact f.dis k a y' x'
    · have x' := (at_j j a q).mp x
      by_cases q2 : k = i
      · subst q2
        exact f.dis j a x' ((at_i a).mp y)
      · exact r.dis j k a n x' ((at_j k a q2).mp y)
  · by_cases q : j = i
    · subst q; exact f.nof a ((at_i a).mp x)
    · exact r.nof j a ((at_j j a q).mp x)
  · by_cases q : j = i
    · subst q; exact f.alc a ((at_i a).mp x)
    · exact r.alc j a ((at_j j a q).mp x)
  · obtain ⟨h1, h2⟩ := r.fix p hp
    exact ⟨h1, by rw [List.getElem?_set_ne (fun z => hio (by rw [z]; exact h1))]; exact h2⟩
  · by_cases q : j = i
    · subst q; exact f.ft a ((at_i a).mp x)
    · exact l.ft j a ((at_j j a q).mp x)
theorem Fres.over {σ : L2.St} {i : Nat} (g : Fres K b W W1 ts vs B2) (d : ∀ a, B1 a → B2 a → False) : Fres K b W ⟨W1.F, W1.H, fun j a => if j = i then B1 a else W1.A j a⟩ ts vs B2 :=
  ⟨g.own, fun j a h q => by
    by_cases z : j = i
    · exact d a (by simpa [z] using h) q
    · exact g.dis j a (by simpa [z] using h) q, g.nof, g.alc, g.ft, g.nw⟩
end
section
variable {G : Gb} {C : Ct} {b : Bool} {a e : Expr} {es : List Expr} {pos : Pos}
structure SQ (G : Gb) (C : Ct) (b : Bool) (es : List Expr) (m : M (List T)) : Prop where
  pu : b = true → ∀ Γ d Γ', m Γ = .ok d Γ' → Γ' = Γ
  go : ∀ X, OkX G C X → ∃ t, PA X es t ∧ ∀ ρ W σ Γ Q, Rl G.K C.io ρ W σ Γ → wp (m Γ) (fun ts Γ' => ∀ vs W' B, Lw b W W' → Rl G.K C.io ρ W' σ Γ' → Fres G.K b W W' ts vs B → Q vs W'.H) → t σ W.H Q
theorem sq_nil : SQ G C b [] (M.pure []) := ⟨fun _ => pu_pure, fun X ok => ⟨tNil, pa_nil, fun ρ W σ Γ Q rl w => w [] W _ (Lw.refl b W) rl Fres.nil⟩⟩
def mConsT (m : M T) (n : M (List T)) : M (List T) := m.bind fun d => n.bind fun ds => M.pure (d :: ds)
@[simp] theorem mConsT_ap (m : M T) (n : M (List T)) (Γ : Sl) : mConsT m n Γ = (m Γ).bind fun d Γ1 => (n Γ1).bind fun ds Γ2 => .ok (d :: ds) Γ2 := rfl
theorem sq_cons {m : M T} {n : M (List T)} (h : SO G C b e m) (k : SQ G C b es n) (hp : Pln e) : SQ G C b (e :: es) (mConsT m n) := ⟨fun z => pu_bind (h.pu z) fun c => pu_bind (k.pu z) fun c => pu_pure, fun X ok => by
  obtain ⟨t, pe, q⟩ := h.go X ok
  obtain ⟨u, pu, qu⟩ := k.go X ok
  refine ⟨_, pa_cons pe pu (hp X.env es), fun ρ W σ Γ Q rl w => q ρ W σ Γ _ rl (wp_mono (wp_bind.mp w) fun d Γ1 _ w1 v W1 B1 l1 r1 f1 => ?_)⟩
  refine qu ρ W1 σ Γ1 _ r1 (wp_mono (wp_bind.mp w1) fun ds Γ2 _ k2 vs W2 B2 l2 r2 f2 => ?_)
  exact k2 (v :: vs) W2 _ (l1.tr l2) r2 (Fres.cons f1 l2 l1 r2.sub f2)⟩
/-! ### a list of own things -/
def mBx (m : M (List T)) : M T := m.bind fun ts => opt (if ts.length ≤ line then some (T.bx ts) else none)
@[simp] theorem mBx_ap (m : M (List T)) (Γ : Sl) : mBx m Γ = (m Γ).bind fun ts Γ1 => opt (if ts.length ≤ line then some (T.bx ts) else none) Γ1 := rfl
theorem owns_len {K : PySem.W.Frag} {F H : Hp} : ∀ {ts : List T} {vs : List V} {A : Addr → Prop}, owns K F H ts vs A → ts.length = vs.length
  | [], vs, A, h => by rw [show vs = [] from h]; rfl
  | t :: ts, vs, A, h => by
    obtain ⟨w, ws, B, e, _, _, r⟩ := h
    rw [e, List.length_cons, List.length_cons, owns_len r]
theorem so_bx {m : M (List T)} (h : SQ G C b es m) : SO G C b (.List es pos) (mBx m) := ⟨fun z => pu_bind (h.pu z) fun c => pu_opt, fun X ok => by
  obtain ⟨t, pe, q⟩ := h.go X ok
  refine ⟨_, pe_lst pe, fun ρ W σ Γ Q rl w => q ρ W σ Γ _ rl (wp_mono (wp_bind.mp w) fun ts Γ1 _ w1 vs W1 B l1 r1 f => ?_)⟩
  split at w1
  · rename_i hl
    refine ⟨by rw [← owns_len f.own]; exact line_le hl, fun p hp => ?_⟩
    have l0 : Le0 W1 ⟨W1.F, upd W1.H p (.lst vs), W1.A⟩ := ⟨Sub.rfl', Sub.new hp, rfl, fun _ _ e => .inl e⟩
    have r2 := r1.more l0 (sub_upd r1.sub hp)
    have nB : ∀ a, B a → a ≠ p := fun a hB z => by
      obtain ⟨o, ho⟩ := f.alc a hB
      rw [z, hp] at ho; cases ho
    refine w1 (.ref p) _ (fun a => a = p ∨ B a) (l1.tr (Lw.of l0)) r2 ⟨⟨p, vs, rfl, .inl rfl, upd_same, owns_sub Sub.rfl' ts vs B _ (fun a hB => ⟨.inr hB, nB a hB⟩) (fun a o _ h => Sub.new hp a o h) f.own⟩, fun i a h hB => ?_, fun a hB => ?_, fun a hB => ?_, fun a hB => ?_, fun e a hB => ?_⟩
    · rcases hB with rfl | hB
      · obtain ⟨o, ho⟩ := r1.alc i a h
        rw [hp] at ho; cases ho
      · exact f.dis i a h hB
    · rcases hB with rfl | hB
      · exact none_of_sub r1.sub hp
      · exact f.nof a hB
    · rcases hB with rfl | hB
      · exact ⟨_, upd_same⟩
      · obtain ⟨o, ho⟩ := f.alc a hB
        exact ⟨o, Sub.new hp a o ho⟩
    · rcases hB with rfl | hB
      · exact l1.le.back hp
      · exact f.ft a hB
    · rcases hB with rfl | hB
      · subst e; exact lw_new l1 hp
      · exact f.nw e a hB
  · exact w1.elim⟩
/-! ### statements -/
variable {st : Stmt} {rest : List Stmt}
def mSeq (m n : M Out) : M Out := m.bind fun o => match o with
  | .nx => n
  | o => M.pure o
@[simp] theorem mSeq_ap (m n : M Out) (Γ : Sl) : mSeq m n Γ = (m Γ).bind (fun o Γ1 => (match o with
  | .nx => n
  | o => M.pure o) Γ1) := rfl
theorem ends_le {K : PySem.W.Frag} {io : List Nat} {ρ : List (Nat × V)} {W W1 : Wd} {E : Ends} {o : Out} {Γ : Sl} (l : Le W W1) (h : Ends.at K io ρ W E o Γ) : Ends.at K io ρ W1 E o Γ := by
  cases o with
  | nx => exact fun σ' W' l' r => h σ' W' (l.tr l') r
  | bk => exact fun σ' W' l' r => h σ' W' (l.tr l') r
  | ct => exact fun σ' W' l' r => h σ' W' (l.tr l') r
  | rt t => exact fun v σ' W' B l' r f => h v σ' W' B (l.tr l') r (Fre.pre (b := false) l f)
theorem ss_nil : SSs G C [] (M.pure .nx) := ⟨fun X ok => ⟨_, pss_nil, fun ρ W σ Γ E rl w => w σ W (Le.refl W) rl⟩⟩
theorem ss_cons {m n : M Out} (h : SS G C st m) (k : SSs G C rest n) : SSs G C (st :: rest) (mSeq m n) := ⟨fun X ok => by
  obtain ⟨t, ps, q⟩ := h.go X ok
  obtain ⟨u, pu, qu⟩ := k.go X ok
  refine ⟨_, pss_cons ps pu, fun ρ W σ Γ E rl w => q ρ W σ Γ _ rl (wp_mono (wp_bind.mp w) fun o Γ1 _ w1 => ?_)⟩
  cases o with
  | nx => exact fun σ' W' l' r => qu ρ W' σ' Γ1 E r (wp_mono w1 fun o Γ2 _ z => ends_le l' z)
  | bk => exact w1
  | ct => exact w1
  | rt t => exact w1⟩
theorem ss_one {m : M Out} (h : SS G C st m) : SSs G C [st] m := ⟨fun X ok => by
  obtain ⟨t, ps, q⟩ := h.go X ok
  exact ⟨t, pss_one ps, q⟩⟩
theorem st_pass : SS G C (.Pass pos) (M.pure .nx) := ⟨fun X ok => ⟨_, ps_pass, fun ρ W σ Γ E rl w => w σ W (Le.refl W) rl⟩⟩
theorem st_break : SS G C (.Break pos) (M.pure .bk) := ⟨fun X ok => ⟨_, ps_break, fun ρ W σ Γ E rl w => w σ W (Le.refl W) rl⟩⟩
theorem st_continue : SS G C (.Continue pos) (M.pure .ct) := ⟨fun X ok => ⟨_, ps_continue, fun ρ W σ Γ E rl w => w σ W (Le.refl W) rl⟩⟩
def mNo {α : Type} : M α := fun _ => .stuck
theorem st_no : SS G C st mNo := ⟨fun X ok => ⟨_, ps_never, fun ρ W σ Γ E rl w => w.elim⟩⟩
theorem ss_no {sts : List Stmt} : SSs G C sts mNo := ⟨fun X ok => ⟨_, pss_never, fun ρ W σ Γ E rl w => w.elim⟩⟩
def mRet (m : M T) : M Out := m.bind fun t => M.pure (.rt t)
@[simp] theorem mRet_ap (m : M T) (Γ : Sl) : mRet m Γ = (m Γ).bind fun t Γ1 => .ok (.rt t) Γ1 := rfl
theorem st_ret {m : M T} (h : SO G C false e m) : SS G C (.Return (some e) pos) (mRet m) := ⟨fun X ok => by
  obtain ⟨t, pe, q⟩ := h.go X ok
  exact ⟨_, ps_ret pe, fun ρ W σ Γ E rl w => q ρ W σ Γ _ rl (wp_mono (wp_bind.mp w) fun t Γ1 _ w1 v W1 B l1 r1 f => w1 v σ W1 B l1 r1 f)⟩⟩
theorem st_retN : SS G C (.Return none pos) (M.pure (.rt (.sh .non))) := ⟨fun X ok =>
  ⟨_, ps_retN, fun ρ W σ Γ E rl w => w .non σ W (fun _ => False) (Le.refl W) rl ⟨rfl, fun _ _ _ z => z, fun _ z => z.elim, fun _ z => z.elim, fun _ z => z.elim, fun _ _ z => z.elim⟩⟩⟩
def mDrop {α : Type} (m : M α) : M Out := m.bind fun _ => M.pure .nx
@[simp] theorem mDrop_ap {α : Type} (m : M α) (Γ : Sl) : mDrop m Γ = (m Γ).bind fun _ Γ1 => .ok .nx Γ1 := rfl
theorem st_expr {m : M T} (h : SO G C false e m) (hs : ∀ env, swapsWith e none pos.line env = pure false) : SS G C (.Expr e pos) (mDrop m) := ⟨fun X ok => by
  obtain ⟨t, pe, q⟩ := h.go X ok
  exact ⟨_, ps_expr pe (hs X.env), fun ρ W σ Γ E rl w => q ρ W σ Γ _ rl (wp_mono (wp_bind.mp w) fun t Γ1 _ w1 v W1 B l1 r1 f => w1 σ W1 l1 r1)⟩⟩
def mIfS (c : M Bool) (m n : M Out) : M Out := c.bind fun z => if z = true then m else n
@[simp] theorem mIfS_ap (c : M Bool) (m n : M Out) (Γ : Sl) : mIfS c m n Γ = (c Γ).bind fun z Γ1 => (if z = true then m else n) Γ1 := rfl
theorem st_if {c : Expr} {p q : List Stmt} {mc : M Bool} {m n : M Out} (hc : SB G C false c mc) (h : SSs G C p m) (k : SSs G C q n) : SS G C (.If c p q pos) (mIfS mc m n) := ⟨fun X ok => by
  obtain ⟨tc, pc, qc⟩ := hc.go X ok
  obtain ⟨t, ps, qt⟩ := h.go X ok
  obtain ⟨u, pu, qu⟩ := k.go X ok
  refine ⟨_, ps_if pc ps pu, fun ρ W σ Γ E rl w => qc ρ W σ Γ _ rl (wp_mono (wp_bind.mp w) fun z Γ1 _ w1 W1 l1 r1 => ?_)⟩
  cases z with
  | true => exact iteT (qt ρ W1 σ Γ1 E r1 (wp_mono w1 fun o Γ2 _ y => ends_le l1 y))
  | false => exact iteF (qu ρ W1 σ Γ1 E r1 (wp_mono w1 fun o Γ2 _ y => ends_le l1 y))⟩
/-! ### assignments -/
def setS (i : Nat) (t : T) (Γ : Sl) : Option Sl := if i < Γ.length then some (Γ.set i (some t)) else none
def mSet (i : Nat) (m : M T) : M Out := m.bind fun t Γ => match setS i t Γ with
  | some Γ' => .ok .nx Γ'
  | none => .stuck
@[simp] theorem mSet_ap (i : Nat) (m : M T) (Γ : Sl) : mSet i m Γ = (m Γ).bind (fun t Γ1 => (match setS i t Γ1 with
  | some Γ' => R.ok Out.nx Γ'
  | none => .stuck)) := rfl
theorem st_set {x : Str} {i : Nat} {pos' : Pos} {m : M T} (h : SO G C false e m) (hN : C.N[i]? = some x) (hx : Loc C.sc x) (hio : i ∉ C.io) (hs : ∀ env : Env, env.scope = C.sc → swapsWith e (some (.Name x pos')) pos.line env = pure false) (hf : C.fn x = true ∨ C.sc.names.lookup x = some .local) :
    SS G C (.Assign [.Name x pos'] e pos) (mSet i m) := ⟨fun X ok => by
  obtain ⟨t, pe, q⟩ := h.go X ok
  refine ⟨_, ps_set (by rw [ok.eN]; exact ok.nd) (by rw [ok.eN]; exact hN) (by rw [ok.es]; exact hx) pe (hs X.env ok.es) (by rw [ok.fn, ok.es]; exact hf), fun ρ W σ Γ E rl w => ?_⟩
  refine q ρ W σ Γ _ rl (wp_mono (wp_bind.mp w) fun t Γ1 _ w1 v W1 B l1 r1 f => ?_)
  unfold setS at w1
  split at w1
  · rename_i Γ' e1
    split at e1
    · rename_i hi
      cases e1
      obtain ⟨r2, l2⟩ := r1.setOwn l1 f hi hio
      exact w1 _ ⟨W1.F, W1.H, fun j a => if j = i then B a else W1.A j a⟩ l2 r2
    · cases e1
  · exact w1.elim⟩
def setM : List Nat → List T → Sl → Option Sl
  | [], [], Γ => some Γ
  | i :: is, t :: ts, Γ => (setS i t Γ).bind (setM is ts)
  | _, _, _ => none
def setV : List Nat → List V → L2.St → L2.St
  | i :: is, v :: vs, σ => setV is vs (σ.set i (some v))
  | _, _, σ => σ
theorem Rl.setMany {K : PySem.W.Frag} {b : Bool} {W : Wd} {io : List Nat} {ρ : List (Nat × V)} : ∀ {is : List Nat} {ts : List T} {vs : List V} {W1 : Wd} {σ : L2.St} {Γ Γ' : Sl} {B : Addr → Prop}, Rl K io ρ W1 σ Γ → Le W W1 → Fres K b W W1 ts vs B → (∀ i ∈ is, i ∉ io) → setM is ts Γ = some Γ' →
    vs.length = is.length ∧ ∃ W2, W2.H = W1.H ∧ Le W W2 ∧ Rl K io ρ W2 (setV is vs σ) Γ'
  | [], [], vs, W1, σ, Γ, Γ', B, r, l, f, hio, e => by
    cases e
    obtain rfl : vs = [] := f.own
    exact ⟨rfl, W1, rfl, l, r⟩
  | i :: is, t :: ts, us, W1, σ, Γ, Γ', B, r, l, f, hio, e => by
    obtain ⟨Γ1, e1, e2⟩ := Option.bind_eq_some_iff.mp (show (setS i t Γ).bind (setM is ts) = some Γ' from e)
    obtain ⟨v, vs, B1, B2, rfl, f1, f2, d⟩ := f.head
    unfold setS at e1
    split at e1
    · rename_i hi
      cases e1
      obtain ⟨r2, l2⟩ := r.setOwn l f1 hi (hio i List.mem_cons_self)
      obtain ⟨h1, W2, h2, h3, h4⟩ := Rl.setMany r2 l2 (Fres.over (σ := σ) f2 d) (fun j hj => hio j (List.mem_cons_of_mem _ hj)) e2
      exact ⟨by rw [List.length_cons, h1]; rfl, W2, h2, h3, h4⟩
    · cases e1
  | [], _ :: _, vs, W1, σ, Γ, Γ', B, r, l, f, hio, e => by cases e
  | _ :: _, [], vs, W1, σ, Γ, Γ', B, r, l, f, hio, e => by cases e
def mSetM (is : List Nat) (m : M (List T)) : M Out := m.bind fun ts Γ => match setM is ts Γ with
  | some Γ' => .ok .nx Γ'
  | none => .stuck
@[simp] theorem mSetM_ap (is : List Nat) (m : M (List T)) (Γ : Sl) : mSetM is m Γ = (m Γ).bind (fun t Γ1 => (match setM is t Γ1 with
  | some Γ' => R.ok Out.nx Γ'
  | none => .stuck)) := rfl
theorem st_par2 {x y : Str} {i j : Nat} {a1 a2 : Expr} {px py pt pt2 : Pos} {kt k2 : Nat} {m : M (List T)} (h : SQ G C false [a1, a2] m) (hi : C.N[i]? = some x) (hj : C.N[j]? = some y) (hij : i ≠ j) (hx : C.sc.names.lookup x = some .local) (hy : C.sc.names.lookup y = some .local)
    (hio : ∀ k ∈ [i, j], k ∉ C.io) (hw : ∀ env : Env, env.scope = C.sc → swappedStores [.Tuple [.Name x px, .Name y py] kt pt] (.Tuple [a1, a2] k2 pt2) env = pure (some [x, y])) (hs : ∀ env, swapsWithSole [.Tuple [.Name x px, .Name y py] kt pt] (.Tuple [a1, a2] k2 pt2) pos.line env = pure false) :
    SS G C (.Assign [.Tuple [.Name x px, .Name y py] kt pt] (.Tuple [a1, a2] k2 pt2) pos) (mSetM [i, j] m) := ⟨fun X ok => by
  obtain ⟨t, pa, q⟩ := h.go X ok
  refine ⟨_, ps_par ok.calm (by rw [ok.eN]; exact ok.nd) (by rw [ok.eN]; exact hi) (by rw [ok.eN]; exact hj) hij (by rw [ok.es]; exact hx) (by rw [ok.es]; exact hy) pa (hw X.env ok.es) (hs X.env), fun ρ W σ Γ E rl w => ?_⟩
  refine q ρ W σ Γ _ rl (wp_mono (wp_bind.mp w) fun ts Γ1 _ w1 vs W1 B l1 r1 f => ?_)
  split at w1
  · rename_i Γ' e1
    obtain ⟨hl, W2, h2, l2, r2⟩ := Rl.setMany r1 l1 f hio e1
    match vs, hl with
    | [u, v], _ =>
      refine ⟨u, v, rfl, ?_⟩
      rw [← h2]
      exact w1 _ W2 l2 r2
  · exact w1.elim⟩
theorem st_par3 {x y z : Str} {i j l : Nat} {a1 a2 a3 : Expr} {px py pz pt pt2 : Pos} {kt k2 : Nat} {m : M (List T)} (h : SQ G C false [a1, a2, a3] m) (hi : C.N[i]? = some x) (hj : C.N[j]? = some y) (hl : C.N[l]? = some z) (hij : i ≠ j) (hil : i ≠ l) (hjl : j ≠ l)
    (hx : C.sc.names.lookup x = some .local) (hy : C.sc.names.lookup y = some .local) (hz : C.sc.names.lookup z = some .local)
    (hio : ∀ k ∈ [i, j, l], k ∉ C.io) (hw : ∀ env : Env, env.scope = C.sc → swappedStores [.Tuple [.Name x px, .Name y py, .Name z pz] kt pt] (.Tuple [a1, a2, a3] k2 pt2) env = pure (some [x, y, z])) (hs : ∀ env, swapsWithSole [.Tuple [.Name x px, .Name y py, .Name z pz] kt pt] (.Tuple [a1, a2, a3] k2 pt2) pos.line env = pure false) :
    SS G C (.Assign [.Tuple [.Name x px, .Name y py, .Name z pz] kt pt] (.Tuple [a1, a2, a3] k2 pt2) pos) (mSetM [i, j, l] m) := ⟨fun X ok => by
  obtain ⟨t, pa, q⟩ := h.go X ok
  refine ⟨_, ps_par3 ok.calm (by rw [ok.eN]; exact ok.nd) (by rw [ok.eN]; exact hi) (by rw [ok.eN]; exact hj) (by rw [ok.eN]; exact hl) hij hil hjl (by rw [ok.es]; exact hx) (by rw [ok.es]; exact hy) (by rw [ok.es]; exact hz) pa (hw X.env ok.es) (hs X.env), fun ρ W σ Γ E rl w => ?_⟩
  refine q ρ W σ Γ _ rl (wp_mono (wp_bind.mp w) fun ts Γ1 _ w1 vs W1 B l1 r1 f => ?_)
  split at w1
  · rename_i Γ' e1
    obtain ⟨hl, W2, h2, l2, r2⟩ := Rl.setMany r1 l1 f hio e1
    match vs, hl with
    | [u, v, w], _ =>
      refine ⟨u, v, w, rfl, ?_⟩
      rw [← h2]
      exact w1 _ W2 l2 r2
  · exact w1.elim⟩
/-! ### targets -/
structure ST (G : Gb) (C : Ct) (tg : Expr) (is : List Nat) (m : D → Sl → Option Sl) : Prop where
  go : ∀ X, OkX G C X → ∃ g, PG X tg g ∧ ∀ ρ W σ Γ v d Γ' Q, Rl G.K C.io ρ W σ Γ → rep G.K W.F d v → m d Γ = some Γ' → (∀ σ' W', Le W W' → W'.F = W.F → W'.H = W.H → (∀ j, j ∉ is → σ'[j]? = σ[j]?) → σ'.length = σ.length → Rl G.K C.io ρ W' σ' Γ' → Q σ' W'.H) → g v σ W.H Q
def tgN (i : Nat) : D → Sl → Option Sl := fun d Γ => setS i (.sh d) Γ
theorem fre_sh {K : PySem.W.Frag} {b : Bool} {W W' : Wd} {d : D} {v : V} (h : rep K W'.F d v) : Fre K b W W' (.sh d) v (fun _ => False) := ⟨h, fun _ _ _ z => z, fun _ z => z.elim, fun _ z => z.elim, fun _ z => z.elim, fun _ _ z => z.elim⟩
theorem tg_name {x : Str} {i : Nat} (hN : C.N[i]? = some x) (hx : Loc C.sc x) (hio : i ∉ C.io) (hf : C.fn x = true ∨ C.sc.names.lookup x = some .local) : ST G C (.Name x pos) [i] (tgN i) := ⟨fun X ok => by
  refine ⟨_, pg_name (by rw [ok.eN]; exact ok.nd) (by rw [ok.eN]; exact hN) (by rw [ok.es]; exact hx) (by rw [ok.fn, ok.es]; exact hf), fun ρ W σ Γ v d Γ' Q rl rp e k => ?_⟩
  unfold tgN setS at e
  split at e
  · rename_i hi
    cases e
    obtain ⟨r2, l2⟩ := rl.setOwn (Le.refl W) (fre_sh (b := false) rp) hi hio
    exact k _ ⟨W.F, W.H, fun j a => if j = i then False else W.A j a⟩ l2 rfl rfl (fun j hj => List.getElem?_set_ne (fun z => hj (by rw [z]; exact List.mem_singleton.mpr rfl))) (List.length_set ..) r2
  · cases e⟩
structure STs (G : Gb) (C : Ct) (tg : List Expr) (is : List Nat) (m : List D → Sl → Option Sl) : Prop where
  go : ∀ X, OkX G C X → ∃ g, PGs X tg g ∧ ∀ ρ W σ Γ vs ds Γ' Q, Rl G.K C.io ρ W σ Γ → reps G.K W.F ds vs → m ds Γ = some Γ' → (∀ σ' W', Le W W' → W'.F = W.F → W'.H = W.H → (∀ j, j ∉ is → σ'[j]? = σ[j]?) → σ'.length = σ.length → Rl G.K C.io ρ W' σ' Γ' → Q σ' W'.H) → g vs σ W.H Q
def tgs0 : List D → Sl → Option Sl := fun ds Γ => match ds with
  | [] => some Γ
  | _ => none
def tgsC (m : D → Sl → Option Sl) (n : List D → Sl → Option Sl) : List D → Sl → Option Sl := fun ds Γ => match ds with
  | d :: ds => (m d Γ).bind (n ds)
  | _ => none
theorem tgs_nil : STs G C [] [] tgs0 := ⟨fun X ok => ⟨_, pgs_nil, fun ρ W σ Γ vs ds Γ' Q rl rp e k => by
  unfold tgs0 at e
  split at e
  · cases e; exact ⟨rp, k σ W (Le.refl W) rfl rfl (fun _ _ => rfl) rfl rl⟩
  · cases e⟩⟩
theorem tgs_cons {tg : Expr} {tgs : List Expr} {is js : List Nat} {m : D → Sl → Option Sl} {n : List D → Sl → Option Sl} (h : ST G C tg is m) (k : STs G C tgs js n) (hs : ∀ env, (assignEach (tg :: tgs) env).map (·.2) = assign tg env :: (assignEach tgs env).map (·.2)) : STs G C (tg :: tgs) (is ++ js) (tgsC m n) := ⟨fun X ok => by
  obtain ⟨g, pg, q⟩ := h.go X ok
  obtain ⟨gs, pgs, qs⟩ := k.go X ok
  refine ⟨_, pgs_cons pg pgs (hs X.env), fun ρ W σ Γ vs ds Γ' Q rl rp e k => ?_⟩
  unfold tgsC at e
  split at e
  · rename_i d ds
    obtain ⟨Γ1, e1, e2⟩ := Option.bind_eq_some_iff.mp e
    obtain ⟨v, vs, rfl, a, r⟩ := rp
    refine ⟨v, vs, rfl, q ρ W σ Γ v d Γ1 _ rl a e1 fun σ1 W1 l1 hF hH g1 n1 r1 => qs ρ W1 σ1 Γ1 vs ds Γ' _ r1 (by rw [hF]; exact r) e2 fun σ2 W2 l2 hF2 hH2 g2 n2 r2 => k σ2 W2 (l1.tr l2) (hF2.trans hF) (hH2.trans hH) (fun j hj => (g2 j fun z => hj (List.mem_append_right _ z)).trans (g1 j fun z => hj (List.mem_append_left _ z))) (n2.trans n1) r2⟩
  · cases e⟩
def tgT (m : List D → Sl → Option Sl) : D → Sl → Option Sl := fun d Γ => match d with
  | .tup ds => m ds Γ
  | _ => none
theorem tg_tup {tgs : List Expr} {k : Nat} {is : List Nat} {m : List D → Sl → Option Sl} {n : Nat} (h : STs G C tgs is m) (hl : ∀ ds Γ Γ', m ds Γ = some Γ' → ds.length = n) (hn : ∀ env, (assignEach tgs env).length = n) (hst : ∀ env, (assignEach tgs env).findIdx? (·.1) = none) :
    ST G C (.Tuple tgs k pos) is (tgT m) := ⟨fun X ok => by
  obtain ⟨gs, pgs, qs⟩ := h.go X ok
  refine ⟨_, pg_tup ok.calm pgs (hn X.env) (hst X.env), fun ρ W σ Γ v d Γ' Q rl rp e k => ?_⟩
  unfold tgT at e
  split at e
  · rename_i ds
    obtain ⟨p, vs, rfl, a, r⟩ := rp
    exact ⟨p, vs, rfl, .inl (.inl (rl.sub _ _ a)), by rw [← reps_len r]; exact hl _ _ _ e, qs ρ W σ Γ vs ds Γ' _ rl r e k⟩
  · cases e⟩
def mUnp (m : M D) (tg : D → Sl → Option Sl) : M Out := m.bind fun d Γ => match tg d Γ with
  | some Γ' => .ok .nx Γ'
  | none => .stuck
@[simp] theorem mUnp_ap (m : M D) (tg : D → Sl → Option Sl) (Γ : Sl) : mUnp m tg Γ = (m Γ).bind (fun d Γ1 => (match tg d Γ1 with
  | some Γ' => R.ok Out.nx Γ'
  | none => .stuck)) := rfl
theorem st_unp {tg : Expr} {is : List Nat} {m : M D} {n : D → Sl → Option Sl} (h : SE G C false e m) (k : ST G C tg is n) (hs : ∀ env, swapsWithSole [tg] e pos.line env = pure false) (hw : ∀ env : Env, env.scope = C.sc → swappedStores [tg] e env = pure none) (h1 : ∀ env, (assignEach [tg] env).map (·.2) = [assign tg env]) :
    SS G C (.Assign [tg] e pos) (mUnp m n) := ⟨fun X ok => by
  obtain ⟨t, pe, q⟩ := h.go X ok
  obtain ⟨g, pg, qg⟩ := k.go X ok
  refine ⟨_, ps_asg pe pg (hs X.env) (hw X.env ok.es) (h1 X.env), fun ρ W σ Γ E rl w => q ρ W σ Γ _ rl (wp_mono (wp_bind.mp w) fun d Γ1 _ w1 v W1 l1 r1 rp => ?_)⟩
  split at w1
  · rename_i Γ' e1
    exact qg ρ W1 σ Γ1 v d Γ' _ r1 rp e1 fun σ2 W2 l2 _ _ _ _ r2 => w1 σ2 W2 (Le.tr l1 l2) r2
  · exact w1.elim⟩
end
end PM
set_option Elab.async false
set_option linter.all false
set_option maxRecDepth 100000
set_option maxHeartbeats 2000000
set_option autoImplicit false
namespace PM
open PySem PySem.Spec PyProof.Rows L2
/-! ### what a loop walks -/
/-- the iterator J gives ds, while F0 stands -/
structure Yl (K : PySem.W.Frag) (F0 : Hp) (J : It) (ds : List D) : Prop where
  go : ∀ (i : Nat) (F H : Hp), Sub F0 F → Sub F H → i < ds.length → J.go i H
  stop : ∀ (i : Nat) (F H : Hp), Sub F0 F → Sub F H → i = ds.length → J.stop i H
  yld : ∀ (i : Nat) (F H : Hp) (d : D) (x : V) (H' : Hp), Sub F0 F → Sub F H → ds[i]? = some d → J.yld i H x H' → ∃ F', Made K F H (.sh d) x F' H'
section
variable {K : PySem.W.Frag} {F : Hp}
theorem yl_lst {p : Addr} {ds : List D} {vs : List V} (a : SqL K F p vs) (r : reps K F ds vs) : Yl K F (Itl K p) ds where
  go := fun i F' H s s' h => by
    have hl : i < vs.length := by rw [← reps_len r]; exact h
    exact ⟨vs, vs[i], sql_sub (s.tr s') a, List.getElem?_eq_getElem hl⟩
  stop := fun i F' H s s' h => ⟨vs, sql_sub (s.tr s') a, by rw [← reps_len r, h]; exact Nat.le_refl _⟩
  yld := fun i F' H d x H' s s' h ⟨e, y⟩ => by
    subst e
    obtain ⟨v, e1, rp⟩ := reps_get (reps_sub s _ _ r) h
    have := y vs (sql_sub (s.tr s') a)
    rw [e1] at this; cases this
    exact ⟨F', .same rp⟩
theorem yl_tup {p : Addr} {ds : List D} {vs : List V} (a : F p = some (.tup vs)) (r : reps K F ds vs) : Yl K F (Itt K p) ds where
  go := fun i F' H s s' h => by
    have hl : i < vs.length := by rw [← reps_len r]; exact h
    exact ⟨vs, vs[i], .inl (.inl (s' _ _ (s _ _ a))), List.getElem?_eq_getElem hl⟩
  stop := fun i F' H s s' h => ⟨vs, .inl (.inl (s' _ _ (s _ _ a))), by rw [← reps_len r, h]; exact Nat.le_refl _⟩
  yld := fun i F' H d x H' s s' h ⟨e, y⟩ => by
    subst e
    obtain ⟨v, e1, rp⟩ := reps_get (reps_sub s _ _ r) h
    have := y vs (.inl (.inl (s' _ _ (s _ _ a))))
    rw [e1] at this; cases this
    exact ⟨F', .same rp⟩
def signs (s : Txt) : List D := s.map fun c => .str [c]
theorem yl_str {s : Txt} : Yl K F (Its (tx s)) (signs s) where
  go := fun i F' H _ _ h => by simpa [signs, Its, tx] using h
  stop := fun i F' H _ _ h => by
    show (tx s).cps.size ≤ i
    rw [h]; simp [signs, tx]
  yld := fun i F' H d x H' _ _ h ⟨e, c, y, z⟩ => by
    subst e; subst z
    have hy : s[i]? = some c := by simpa [tx] using y
    unfold signs at h
    rw [List.getElem?_map, hy] at h
    cases h
    exact ⟨F', .same rfl⟩
def intsL (lo : Int) (n : Nat) : List D := (List.range n).map fun i => .int (lo + (i : Nat))
theorem yl_rng {lo : Int} {n : Nat} : Yl K F (Itr lo n) (intsL lo n) where
  go := fun i F' H _ _ h => by simpa [intsL, Itr] using h
  stop := fun i F' H _ _ h => by
    show n ≤ i
    rw [h]; simp [intsL]
  yld := fun i F' H d x H' _ _ h ⟨e, y⟩ => by
    subst e; subst y
    have hi : i < n := by simpa [intsL] using (List.getElem?_eq_some_iff.mp h).1
    have : (intsL lo n)[i]? = some (.int (lo + (i : Nat))) := by simp [intsL, hi]
    rw [this] at h; cases h
    exact ⟨F', .same rfl⟩
def intsC (lo c : Int) (n : Nat) : List D := (List.range n).map fun i => .int (lo + (i : Nat) * c)
theorem yl_rngC {lo c : Int} {n : Nat} : Yl K F (Itc lo c n) (intsC lo c n) where
  go := fun i F' H _ _ h => by simpa [intsC, Itc] using h
  stop := fun i F' H _ _ h => by
    show n ≤ i
    rw [h]; simp [intsC]
  yld := fun i F' H d x H' _ _ h ⟨e, y⟩ => by
    subst e; subst y
    have hi : i < n := by simpa [intsC] using (List.getElem?_eq_some_iff.mp h).1
    have : (intsC lo c n)[i]? = some (.int (lo + (i : Nat) * c)) := by simp [intsC, hi]
    rw [this] at h; cases h
    exact ⟨F', .same rfl⟩
def enumD (ds : List D) : List D := ds.zipIdx.map fun p => .tup [.int p.2, p.1]
theorem yl_enum {p : Addr} {ds : List D} {vs : List V} (a : SqL K F p vs) (r : reps K F ds vs) : Yl K F (Ite K p) (enumD ds) where
  go := fun i F' H s s' h => by
    have hl : i < vs.length := by rw [← reps_len r]; simpa [enumD] using h
    exact ⟨vs, vs[i], sql_sub (s.tr s') a, List.getElem?_eq_getElem hl⟩
  stop := fun i F' H s s' h => ⟨vs, sql_sub (s.tr s') a, by rw [← reps_len r, h]; simp [enumD]⟩
  yld := fun i F' H d x H' s s' h ⟨q, y, e1, e2, e3, e4⟩ => by
    subst e1; subst e3
    have hi : i < ds.length := by simpa [enumD] using (List.getElem?_eq_some_iff.mp h).1
    have e5 : (enumD ds)[i]? = some (.tup [.int (i : Nat), ds[i]]) := by simp [enumD, hi]
    rw [e5] at h; cases h
    obtain ⟨v, e6, rp⟩ := reps_get (reps_sub s _ _ r) (List.getElem?_eq_getElem hi)
    have := e4 vs (sql_sub (s.tr s') a)
    rw [e6] at this; cases this
    exact ⟨_, .tup e2 (reps_cons rfl (reps_cons rp reps_nil))⟩
def zipD (ds es : List D) : List D := (ds.zip es).map fun p => .tup [p.1, p.2]
theorem yl_zip {p q : Addr} {ds es : List D} {vs us : List V} (a : SqL K F p vs) (r : reps K F ds vs) (a2 : SqL K F q us) (r2 : reps K F es us) : Yl K F (Itz K p q) (zipD ds es) where
  go := fun i F' H s s' h => by
    have hl : i < ds.length ∧ i < es.length := Nat.lt_min.mp (by simpa [zipD] using h)
    have h1 : i < vs.length := by rw [← reps_len r]; exact hl.1
    have h2 : i < us.length := by rw [← reps_len r2]; exact hl.2
    exact ⟨vs, us, vs[i], us[i], sql_sub (s.tr s') a, sql_sub (s.tr s') a2, List.getElem?_eq_getElem h1, List.getElem?_eq_getElem h2⟩
  stop := fun i F' H s s' h => ⟨vs, us, sql_sub (s.tr s') a, sql_sub (s.tr s') a2, by
    rw [← reps_len r, ← reps_len r2, h]
    simp [zipD]
    omega⟩
  yld := fun i F' H d x H' s s' h ⟨t, y, z, e1, e2, e3, e4, e5⟩ => by
    subst e1; subst e3
    have hl : i < ds.length ∧ i < es.length := Nat.lt_min.mp (by simpa [zipD] using (List.getElem?_eq_some_iff.mp h).1)
    have e6 : (zipD ds es)[i]? = some (.tup [ds[i]'hl.1, es[i]'hl.2]) := by
      have hz : i < (ds.zip es).length := by simp; omega
      simp [zipD, List.getElem?_eq_getElem hz]
    rw [e6] at h; cases h
    obtain ⟨v, e7, rp⟩ := reps_get (reps_sub s _ _ r) (List.getElem?_eq_getElem hl.1)
    obtain ⟨u, e8, rp2⟩ := reps_get (reps_sub s _ _ r2) (List.getElem?_eq_getElem hl.2)
    have h1 := e4 vs (sql_sub (s.tr s') a)
    have h2 := e5 us (sql_sub (s.tr s') a2)
    rw [e7] at h1; cases h1
    rw [e8] at h2; cases h2
    exact ⟨_, .tup e2 (reps_cons rp (reps_cons rp2 reps_nil))⟩
end
section
variable {G : Gb} {C : Ct} {b : Bool} {tg e a c : Expr} {pos : Pos}
structure SI (G : Gb) (C : Ct) (b : Bool) (tg iter : Expr) (m : M (List D)) : Prop where
  pu : b = true → ∀ Γ d Γ', m Γ = .ok d Γ' → Γ' = Γ
  go : ∀ X, OkX G C X → ∃ wi, PI X tg iter wi ∧ ∀ ρ W σ Γ R, Rl G.K C.io ρ W σ Γ → wp (m Γ) (fun ds Γ' => ∀ J W', Lw b W W' → Rl G.K C.io ρ W' σ Γ' → Yl G.K W'.F J ds → R J W'.H) → wi σ W.H R
theorem pi_any {X : Cx} {te : TE} (he : PE X e te) : PI X tg e (fun σ H R => te σ H fun x H1 => (∃ a, x = .ref a ∧ ((∃ xs, SqL X.K H1 a xs) ∧ R (Itl X.K a) H1 ∨ (∃ xs, SqT X.K H1 a xs) ∧ R (Itt X.K a) H1)) ∨ ∃ z, x = .str z ∧ R (Its z) H1) := by
  refine ⟨fun pins s σ H R I h => thn (he.run pins s σ H _ I h) ?_⟩
  rintro v s1 ⟨x, H1, I1, r1, q1⟩
  have fp : ∀ b ∈ [s1.heap.objs.size], FpOk X pins H1 b := fun b hb => by
    obtain rfl := List.mem_singleton.mp hb
    exact I1.fpOk (Nat.le_refl _) (I1.hok.fresh (Nat.le_refl _))
  rcases q1 with ⟨a, rfl, q1⟩ | ⟨z, rfl, q⟩
  · cases r1
    rcases q1 with ⟨⟨xs, hq⟩, q⟩ | ⟨⟨xs, hq⟩, q⟩
    · obtain ⟨its, rv, p, _⟩ := I1.list hq
      exact wpAny_pyIter_list p.isList ⟨_, [_], _, _, H1, rfl, I1.kept (t' := s1.toks) fun b o e => Heap.get?_push_of_some _ e, turn_list a _, ⟨_, Heap.get?_push_size _ rfl, rfl, rfl⟩, fp, q⟩
    · obtain ⟨its, rv, p, _⟩ := I1.tuple hq
      exact wpAny_pyIter_tuple (show s1.heap.IsTuple a its.toArray from p) ⟨_, [_], _, _, H1, rfl, I1.kept (t' := s1.toks) fun b o e => Heap.get?_push_of_some _ e, turn_tuple a _, ⟨_, Heap.get?_push_size _ rfl, rfl, rfl⟩, fp, q⟩
  · obtain ⟨t, rfl⟩ := r1
    cases ha : z.cps.all (· < 128)
    · exact wpAny_pyIter_wide ha (pi_one (tk := s1.toks) I1 _ (turn_str _ z t "str_iterator" (.inr rfl)) ⟨_, Heap.get?_push_size _ rfl, rfl, rfl⟩ q)
    · exact wpAny_pyIter_ascii ha (pi_one (tk := s1.toks) I1 _ (turn_str _ z t "str_ascii_iterator" (.inl rfl)) ⟨_, Heap.get?_push_size _ rfl, rfl, rfl⟩ q)
def D.its : D → Option (List D)
  | .lst xs => some xs
  | .frz xs => some xs
  | .tup xs => some xs
  | .str s => some (signs s)
  | _ => none
def mIt (m : M D) : M (List D) := m.bind fun d => opt d.its
@[simp] theorem mIt_ap (m : M D) (Γ : Sl) : mIt m Γ = (m Γ).bind fun d Γ1 => opt d.its Γ1 := rfl
theorem si_any {m : M D} (h : SE G C b e m) : SI G C b tg e (mIt m) := ⟨fun z => pu_bind (h.pu z) fun _ => pu_opt, fun X ok => by
  obtain ⟨t, pe, q⟩ := h.go X ok
  have hg := ok.g
  subst hg
  refine ⟨_, pi_any pe, fun ρ W σ Γ R rl w => q ρ W σ Γ _ rl (wp_mono (wp_bind.mp w) fun d Γ1 _ w1 v W1 l1 r1 rp => ?_)⟩
  cases d with
  | lst xs => obtain ⟨p, vs, rfl, a, r⟩ := rp; exact .inl ⟨p, rfl, .inl ⟨⟨vs, .inl (.inl (r1.sub _ _ a))⟩, w1 _ W1 l1 r1 (yl_lst (.inl (.inl a)) r)⟩⟩
  | frz xs => obtain ⟨p, vs, rfl, a, r⟩ := rp; exact .inl ⟨p, rfl, .inl ⟨⟨vs, sql_sub r1.sub a⟩, w1 _ W1 l1 r1 (yl_lst a r)⟩⟩
  | tup xs => obtain ⟨p, vs, rfl, a, r⟩ := rp; exact .inl ⟨p, rfl, .inr ⟨⟨vs, .inl (.inl (r1.sub _ _ a))⟩, w1 _ W1 l1 r1 (yl_tup a r)⟩⟩
  | str s => exact .inr ⟨tx s, rp, w1 _ W1 l1 r1 yl_str⟩
  | _ => exact w1.elim⟩
abbrev small62 (i : Int) : Prop := i.natAbs < 4611686018427387904
def rng1 : List D → Option (List D)
  | [.int j] => if small62 j then some (intsL 0 j.toNat) else none
  | _ => none
def rng2 : List D → Option (List D)
  | [.int i, .int j] => if small62 i ∧ small62 j then some (intsL i (j - i).toNat) else none
  | _ => none
def rng3 : List D → Option (List D)
  | [.int i, .int j, .int k] => if k = -1 ∧ small62 i ∧ small62 j then some (intsC i (-1) (i - j).toNat) else none
  | _ => none
def mRng (f : List D → Option (List D)) (m : M (List D)) : M (List D) := m.bind fun ds => opt (f ds)
@[simp] theorem mRng_ap (f : List D → Option (List D)) (m : M (List D)) (Γ : Sl) : mRng f m Γ = (m Γ).bind fun d Γ1 => opt (f d) Γ1 := rfl
abbrev Blt (G : Gb) (C : Ct) (x : Str) : Prop := C.sc.names.lookup x = some .globalImplicit ∧ G.mg x = none
theorem si_range1 {p : Pos} {m : M (List D)} (hx : Blt G C "range") (h : SA G C b [a] m) (hs : ∀ env, starEach [a] env = [(false, eval a env)]) : SI G C b tg (.Call (.Name "range" p) [a] [] pos) (mRng rng1 m) := ⟨fun z => pu_bind (h.pu z) fun _ => pu_opt, fun X ok => by
  obtain ⟨t, pe, q⟩ := h.go X ok
  have hg := ok.g
  subst hg
  refine ⟨_, pi_range1 (ok_gl ok hx.1) hx.2 pe (hs X.env), fun ρ W σ Γ R rl w => q ρ W σ Γ _ rl (wp_mono (wp_bind.mp w) fun d Γ1 _ w1 v W1 l1 r1 rp => ?_)⟩
  unfold rng1 at w1
  split at w1
  · rename_i j _
    split at w1
    · rename_i hj
      obtain ⟨u, us, rfl, e, r⟩ := rp
      obtain rfl : us = [] := r
      obtain rfl : u = .int j := e
      exact ⟨j, rfl, by have := hj; omega, by have := hj; omega, w1 _ W1 l1 r1 yl_rng⟩
    · exact w1.elim
  · exact w1.elim⟩
theorem si_range2 {p : Pos} {m : M (List D)} (hx : Blt G C "range") (h : SA G C b [a, c] m) (hs : ∀ env, starEach [a, c] env = [(false, eval a env), (false, eval c env)]) (hs2 : ∀ env, starEach [c] env = [(false, eval c env)]) : SI G C b tg (.Call (.Name "range" p) [a, c] [] pos) (mRng rng2 m) := ⟨fun z => pu_bind (h.pu z) fun _ => pu_opt, fun X ok => by
  obtain ⟨t, pe, q⟩ := h.go X ok
  have hg := ok.g
  subst hg
  refine ⟨_, pi_range2 (ok_gl ok hx.1) hx.2 pe (hs X.env) (hs2 X.env), fun ρ W σ Γ R rl w => q ρ W σ Γ _ rl (wp_mono (wp_bind.mp w) fun d Γ1 _ w1 v W1 l1 r1 rp => ?_)⟩
  unfold rng2 at w1
  split at w1
  · rename_i i j _
    split at w1
    · rename_i hj
      obtain ⟨u, us, rfl, e, u2, us2, rfl, e2, r⟩ := rp
      obtain rfl : us2 = [] := r
      obtain rfl : u = .int i := e
      obtain rfl : u2 = .int j := e2
      obtain ⟨h1, h3⟩ := hj
      exact ⟨i, j, rfl, ⟨by omega, by omega, by omega, by omega⟩, w1 _ W1 l1 r1 yl_rng⟩
    · exact w1.elim
  · exact w1.elim⟩
theorem si_range3 {p : Pos} {c2 : Expr} {m : M (List D)} (hx : Blt G C "range") (h : SA G C b [a, c, c2] m) (hs : ∀ env, starEach [a, c, c2] env = (false, eval a env) :: starEach [c, c2] env) (hpl : ∀ env, (backTo pos (starEach [c, c2] env)).any (·.1) = false) : SI G C b tg (.Call (.Name "range" p) [a, c, c2] [] pos) (mRng rng3 m) := ⟨fun z => pu_bind (h.pu z) fun _ => pu_opt, fun X ok => by
  obtain ⟨t, pe, q⟩ := h.go X ok
  have hg := ok.g
  subst hg
  refine ⟨_, pi_range3 (ok_gl ok hx.1) hx.2 pe (hs X.env) (hpl X.env), fun ρ W σ Γ R rl w => q ρ W σ Γ _ rl (wp_mono (wp_bind.mp w) fun d Γ1 _ w1 v W1 l1 r1 rp => ?_)⟩
  unfold rng3 at w1
  split at w1
  · rename_i i j k _
    split at w1
    · rename_i hj
      obtain ⟨u, us, rfl, e, u2, us2, rfl, e2, u3, us3, rfl, e3, r⟩ := rp
      obtain rfl : us3 = [] := r
      obtain rfl : u = .int i := e
      obtain rfl : u2 = .int j := e2
      obtain rfl : u3 = .int k := e3
      obtain ⟨rfl, h1, h3⟩ := hj
      exact ⟨i, j, -1, _, rfl, RgC.neg (by omega) (by omega) (by omega) (by omega), w1 _ W1 l1 r1 yl_rngC⟩
    · exact w1.elim
  · exact w1.elim⟩
def enum1 : List D → Option (List D)
  | [d] => d.lst?.map enumD
  | _ => none
def zip2 : List D → Option (List D)
  | [d, e] => d.lst?.bind fun x => e.lst?.map fun y => zipD x y
  | _ => none
theorem lst_rep {K : PySem.W.Frag} {F : Hp} {d : D} {v : V} {xs : List D} (h : rep K F d v) (e : d.lst? = some xs) : ∃ p vs, v = .ref p ∧ SqL K F p vs ∧ reps K F xs vs := by
  cases d with
  | lst ys => cases e; obtain ⟨p, vs, e1, a, r⟩ := h; exact ⟨p, vs, e1, .inl (.inl a), r⟩
  | frz ys => cases e; obtain ⟨p, vs, e1, a, r⟩ := h; exact ⟨p, vs, e1, a, r⟩
  | _ => cases e
theorem si_enum {elts : List Expr} {kk : Nat} {p tpos : Pos} {m : M (List D)} (hx : Blt G C "enumerate") (h : SA G C b [a] m) (hs : ∀ env, starEach [a] env = [(false, eval a env)]) : SI G C b (.Tuple elts kk tpos) (.Call (.Name "enumerate" p) [a] [] pos) (mRng enum1 m) := ⟨fun z => pu_bind (h.pu z) fun _ => pu_opt, fun X ok => by
  obtain ⟨t, pe, q⟩ := h.go X ok
  have hg := ok.g
  subst hg
  refine ⟨_, pi_enum (ok_gl ok hx.1) hx.2 pe (hs X.env), fun ρ W σ Γ R rl w => q ρ W σ Γ _ rl (wp_mono (wp_bind.mp w) fun ds Γ1 _ w1 v W1 l1 r1 rp => ?_)⟩
  unfold enum1 at w1
  split at w1
  · rename_i d _
    cases z : d.lst? with
    | none => rw [z] at w1; exact w1.elim
    | some xs =>
      rw [z] at w1
      obtain ⟨u, us, rfl, e, r⟩ := rp
      obtain rfl : us = [] := r
      obtain ⟨p, vs, rfl, sq, rr⟩ := lst_rep e z
      exact ⟨p, vs, rfl, sql_sub r1.sub sq, w1 _ W1 l1 r1 (yl_enum sq rr)⟩
  · exact w1.elim⟩
theorem si_zip {elts : List Expr} {kk : Nat} {p tpos : Pos} {m : M (List D)} (hx : Blt G C "zip") (h : SA G C b [a, c] m) (hs : ∀ env, starEach [a, c] env = (false, eval a env) :: starEach [c] env) (hpl : ∀ env, (backTo pos (starEach [c] env)).any (·.1) = false) : SI G C b (.Tuple elts kk tpos) (.Call (.Name "zip" p) [a, c] [] pos) (mRng zip2 m) := ⟨fun z => pu_bind (h.pu z) fun _ => pu_opt, fun X ok => by
  obtain ⟨t, pe, q⟩ := h.go X ok
  have hg := ok.g
  subst hg
  refine ⟨_, pi_zip (ok_gl ok hx.1) hx.2 pe (hs X.env) (hpl X.env), fun ρ W σ Γ R rl w => q ρ W σ Γ _ rl (wp_mono (wp_bind.mp w) fun ds Γ1 _ w1 v W1 l1 r1 rp => ?_)⟩
  unfold zip2 at w1
  split at w1
  · rename_i d1 d2 _
    cases z : d1.lst? with
    | none => rw [z] at w1; exact w1.elim
    | some xs =>
      cases z2 : d2.lst? with
      | none => rw [z, z2] at w1; exact w1.elim
      | some ys =>
        rw [z, z2] at w1
        obtain ⟨u, us, rfl, e, u2, us2, rfl, e2, r⟩ := rp
        obtain rfl : us2 = [] := r
        obtain ⟨p, vs, rfl, sq, rr⟩ := lst_rep e z
        obtain ⟨p2, vs2, rfl, sq2, rr2⟩ := lst_rep e2 z2
        exact ⟨p, p2, vs, vs2, rfl, sql_sub r1.sub sq, sql_sub r1.sub sq2, w1 _ W1 l1 r1 (yl_zip sq rr sq2 rr2)⟩
  · exact w1.elim⟩
/-! ### for -/
def forM (tg : D → Sl → Option Sl) (mb : M Out) : List D → Sl → R Out
  | [], Γ => .ok .nx Γ
  | d :: ds, Γ => match tg d Γ with
    | none => .stuck
    | some Γ1 => (mb Γ1).bind fun o Γ2 => match o with
      | .nx => forM tg mb ds Γ2
      | .ct => forM tg mb ds Γ2
      | .bk => .ok .nx Γ2
      | .rt t => .ok (.rt t) Γ2
theorem forM_nil (tg : D → Sl → Option Sl) (mb : M Out) (Γ : Sl) : forM tg mb [] Γ = .ok .nx Γ := rfl
theorem forM_cons (tg : D → Sl → Option Sl) (mb : M Out) (d : D) (ds : List D) (Γ : Sl) : forM tg mb (d :: ds) Γ = match tg d Γ with
    | none => .stuck
    | some Γ1 => (mb Γ1).bind fun o Γ2 => match o with
      | .nx => forM tg mb ds Γ2
      | .ct => forM tg mb ds Γ2
      | .bk => .ok .nx Γ2
      | .rt t => .ok (.rt t) Γ2 := rfl
def mFor (mi : M (List D)) (tg : D → Sl → Option Sl) (mb : M Out) : M Out := mi.bind fun ds => forM tg mb ds
@[simp] theorem mFor_ap (mi : M (List D)) (tg : D → Sl → Option Sl) (mb : M Out) (Γ : Sl) : mFor mi tg mb Γ = (mi Γ).bind fun ds Γ1 => forM tg mb ds Γ1 := rfl
theorem ends_next {K : PySem.W.Frag} {io : List Nat} {ρ : List (Nat × V)} {W W1 : Wd} {E : Ends} {σ : L2.St} {Γ : Sl} (l : Le W W1) (r : Rl K io ρ W1 σ Γ) (h : Ends.at K io ρ W E .nx Γ) : E.nx σ W1.H := h σ W1 l r
theorem st_for {body : List Stmt} {is : List Nat} {mi : M (List D)} {mt : D → Sl → Option Sl} {mb : M Out} (hi : SI G C false tg e mi) (ht : ST G C tg is mt) (hb : SSs G C body mb) (hs : ∀ env x, foldedSetIterable e env x = pure x) : SS G C (.For tg e body [] pos) (mFor mi mt mb) := ⟨fun X ok => by
  obtain ⟨wi, pi, qi⟩ := hi.go X ok
  obtain ⟨g, pg, qg⟩ := ht.go X ok
  obtain ⟨t, pb, qb⟩ := hb.go X ok
  refine ⟨_, ps_for (by rw [ok.nx]; exact .never) ok.calm pi pg pb (hs X.env), fun ρ W σ Γ E rl w => ?_⟩
  refine qi ρ W σ Γ _ rl (wp_mono (wp_bind.mp w) fun ds Γ1 _ w1 J W1 l1 r1 y => ?_)
  refine ⟨fun i m σ H => m = ds.length - i ∧ i ≤ ds.length ∧ ∃ Wx Γx, Wx.H = H ∧ Le W1 Wx ∧ Rl G.K C.io ρ Wx σ Γx ∧ wp (forM mt mb (ds.drop i) Γx) (Ends.at G.K C.io ρ W1 E), ⟨ds.length, by simp, Nat.zero_le _, W1, Γ1, rfl, Le.refl _, r1, wp_mono w1 fun o Γ2 _ z => ends_le l1 z⟩, ?_⟩
  rintro i m σ2 H2 ⟨rfl, hi, Wx, Γx, rfl, lx, rx, wx⟩
  by_cases hlt : i < ds.length
  · rw [List.drop_eq_getElem_cons hlt, forM_cons] at wx
    cases e1 : mt ds[i] Γx with
    | none => rw [e1] at wx; exact wx.elim
    | some Γ3 =>
      rw [e1] at wx
      refine .inr ⟨y.go i Wx.F Wx.H lx.ext rx.sub hlt, fun σ' H' => ∃ Wy Γy, Wy.H = H' ∧ Le W1 Wy ∧ Rl G.K C.io ρ Wy σ' Γy ∧ wp (forM mt mb (ds.drop (i + 1)) Γy) (Ends.at G.K C.io ρ W1 E),
        fun σ' H' ⟨Wy, Γy, h1, h2, h3, h4⟩ => ⟨ds.length - (i + 1), by omega, rfl, hlt, Wy, Γy, h1, h2, h3, h4⟩, fun x H' yy => ?_⟩
      obtain ⟨F', md⟩ := y.yld i Wx.F Wx.H _ x H' lx.ext rx.sub (List.getElem?_eq_getElem hlt) yy
      obtain ⟨l3, r3, B, fr⟩ := made_ok rx md
      refine qg ρ ⟨F', H', Wx.A⟩ σ2 Γx x ds[i] Γ3 _ r3 fr.own e1 fun σ4 W4 l4 hF hH _ _ r4 => ?_
      have l14 : Le W1 W4 := (lx.tr l3.le).tr l4
      refine qb ρ W4 σ4 Γ3 _ r4 (wp_mono (wp_bind.mp wx) fun o Γ5 _ w5 => ?_)
      cases o with
      | nx => exact fun σ' W' l' r' => ⟨W', Γ5, rfl, l14.tr l', r', w5⟩
      | ct => exact fun σ' W' l' r' => ⟨W', Γ5, rfl, l14.tr l', r', w5⟩
      | bk => exact fun σ' W' l' r' => w5 σ' W' (l14.tr l') r'
      | rt t => exact fun v σ' W' B l' r' f => w5 v σ' W' B (l14.tr l') r' (Fre.pre (b := false) l14 f)
  · have hi2 : i = ds.length := by omega
    subst hi2
    rw [List.drop_length, forM_nil] at wx
    exact .inl ⟨y.stop _ Wx.F Wx.H lx.ext rx.sub rfl, wx σ2 Wx lx rx⟩⟩
/-! ### while -/
def whileF (mc : M Bool) (mb : M Out) : Nat → Sl → R Out
  | 0, _ => .stuck
  | n + 1, Γ => (mc Γ).bind fun c Γ1 => if c = true then (mb Γ1).bind fun o Γ2 => (match o with
      | .nx => whileF mc mb n Γ2
      | .ct => whileF mc mb n Γ2
      | .bk => .ok .nx Γ2
      | .rt t => .ok (.rt t) Γ2) else .ok .nx Γ1
theorem whileF_mono (mc : M Bool) (mb : M Out) : ∀ (n : Nat) (Γ : Sl) (o : Out) (Γ' : Sl), whileF mc mb n Γ = .ok o Γ' → whileF mc mb (n + 1) Γ = .ok o Γ'
  | 0, Γ, o, Γ', h => by cases h
  | n + 1, Γ, o, Γ', h => by
    unfold whileF at h ⊢
    cases e : mc Γ with
    | stuck => rw [e] at h; cases h
    | ok c Γ1 =>
      rw [e] at h
      simp only [R.bind_ok] at h ⊢
      split
      · rename_i hc
        rw [if_pos hc] at h
        cases e2 : mb Γ1 with
        | stuck => rw [e2] at h; cases h
        | ok o2 Γ2 =>
          rw [e2] at h
          simp only [R.bind_ok] at h ⊢
          cases o2 with
          | nx => exact whileF_mono mc mb n Γ2 o Γ' h
          | ct => exact whileF_mono mc mb n Γ2 o Γ' h
          | bk => exact h
          | rt t => exact h
      · rename_i hc
        rw [if_neg hc] at h
        exact h
theorem whileF_le (mc : M Bool) (mb : M Out) {n m : Nat} (l : n ≤ m) {Γ : Sl} {o : Out} {Γ' : Sl} (h : whileF mc mb n Γ = .ok o Γ') : whileF mc mb m Γ = .ok o Γ' := by
  induction l with
  | refl => exact h
  | step _ ih => exact whileF_mono mc mb _ Γ o Γ' ih
open Classical in
noncomputable def mWhile (mc : M Bool) (mb : M Out) : M Out := fun Γ => if h : ∃ n o Γ', whileF mc mb n Γ = .ok o Γ' then whileF mc mb h.choose Γ else .stuck
theorem mWhile_of (mc : M Bool) (mb : M Out) {n : Nat} {Γ : Sl} {o : Out} {Γ' : Sl} (h : whileF mc mb n Γ = .ok o Γ') : mWhile mc mb Γ = .ok o Γ' := by
  have hx : ∃ n o Γ', whileF mc mb n Γ = .ok o Γ' := ⟨n, o, Γ', h⟩
  unfold mWhile
  rw [dif_pos hx]
  obtain ⟨o2, Γ2, h2⟩ := hx.choose_spec
  have a := whileF_le mc mb (Nat.le_max_left n hx.choose) h
  have b := whileF_le mc mb (Nat.le_max_right n hx.choose) h2
  rw [a] at b
  rw [h2, ← b]
theorem mWhile_some (mc : M Bool) (mb : M Out) {Γ : Sl} {o : Out} {Γ' : Sl} (h : mWhile mc mb Γ = .ok o Γ') : ∃ n, whileF mc mb n Γ = .ok o Γ' := by
  unfold mWhile at h
  split at h
  · exact ⟨_, h⟩
  · cases h
/-- one turn -/
theorem mWhile_step (mc : M Bool) (mb : M Out) (Γ : Sl) : mWhile mc mb Γ = (mc Γ).bind fun c Γ1 => if c = true then (mb Γ1).bind fun o Γ2 => (match o with
      | .nx => mWhile mc mb Γ2
      | .ct => mWhile mc mb Γ2
      | .bk => .ok .nx Γ2
      | .rt t => .ok (.rt t) Γ2) else .ok .nx Γ1 := by
  have fwd : ∀ o Γ', mWhile mc mb Γ = .ok o Γ' → ((mc Γ).bind fun c Γ1 => if c = true then (mb Γ1).bind fun o Γ2 => (match o with
      | .nx => mWhile mc mb Γ2
      | .ct => mWhile mc mb Γ2
      | .bk => .ok .nx Γ2
      | .rt t => .ok (.rt t) Γ2) else .ok .nx Γ1) = .ok o Γ' := fun o Γ' h => by
    obtain ⟨n, h⟩ := mWhile_some mc mb h
    cases n with
    | zero => cases h
    | succ n =>
      unfold whileF at h
      cases e : mc Γ with
      | stuck => rw [e] at h; cases h
      | ok c Γ1 =>
        rw [e] at h
        simp only [R.bind_ok] at h ⊢
        split
        · rename_i hc
          rw [if_pos hc] at h
          cases e2 : mb Γ1 with
          | stuck => rw [e2] at h; cases h
          | ok o2 Γ2 =>
            rw [e2] at h
            simp only [R.bind_ok] at h ⊢
            cases o2 with
            | nx => exact mWhile_of mc mb h
            | ct => exact mWhile_of mc mb h
            | bk => exact h
            | rt t => exact h
        · rename_i hc
          rw [if_neg hc] at h
          exact h
  have bwd : ∀ o Γ', ((mc Γ).bind fun c Γ1 => if c = true then (mb Γ1).bind fun o Γ2 => (match o with
      | .nx => mWhile mc mb Γ2
      | .ct => mWhile mc mb Γ2
      | .bk => .ok .nx Γ2
      | .rt t => .ok (.rt t) Γ2) else .ok .nx Γ1) = .ok o Γ' → mWhile mc mb Γ = .ok o Γ' := fun o Γ' h => by
    cases e : mc Γ with
    | stuck => rw [e] at h; cases h
    | ok c Γ1 =>
      rw [e] at h
      simp only [R.bind_ok] at h
      split at h
      · rename_i hc
        cases e2 : mb Γ1 with
        | stuck => rw [e2] at h; cases h
        | ok o2 Γ2 =>
          rw [e2] at h
          simp only [R.bind_ok] at h
          cases o2 with
          | nx =>
            obtain ⟨n, h⟩ := mWhile_some mc mb h
            refine mWhile_of mc mb (n := n + 1) ?_
            unfold whileF
            rw [e]; simp only [R.bind_ok]; rw [if_pos hc, e2]; exact h
          | ct =>
            obtain ⟨n, h⟩ := mWhile_some mc mb h
            refine mWhile_of mc mb (n := n + 1) ?_
            unfold whileF
            rw [e]; simp only [R.bind_ok]; rw [if_pos hc, e2]; exact h
          | bk =>
            refine mWhile_of mc mb (n := 1) ?_
            unfold whileF
            rw [e]; simp only [R.bind_ok]; rw [if_pos hc, e2]; exact h
          | rt t =>
            refine mWhile_of mc mb (n := 1) ?_
            unfold whileF
            rw [e]; simp only [R.bind_ok]; rw [if_pos hc, e2]; exact h
      · rename_i hc
        refine mWhile_of mc mb (n := 1) ?_
        unfold whileF
        rw [e]; simp only [R.bind_ok]; rw [if_neg hc]; exact h
  generalize hr : ((mc Γ).bind fun c Γ1 => if c = true then (mb Γ1).bind fun o Γ2 => (match o with
      | .nx => mWhile mc mb Γ2
      | .ct => mWhile mc mb Γ2
      | .bk => .ok .nx Γ2
      | .rt t => .ok (.rt t) Γ2) else .ok .nx Γ1) = r at fwd bwd ⊢
  cases r with
  | ok o Γ' => exact bwd o Γ' rfl
  | stuck =>
    cases e : mWhile mc mb Γ with
    | stuck => rfl
    | ok o Γ' => exact (fwd o Γ' e).symm
theorem st_while {body : List Stmt} {mc : M Bool} {mb : M Out} (hc : SB G C false e mc) (hb : SSs G C body mb) : SS G C (.While e body [] pos) (mWhile mc mb) := ⟨fun X ok => by
  obtain ⟨tc, pc, qc⟩ := hc.go X ok
  obtain ⟨t, pb, qb⟩ := hb.go X ok
  refine ⟨_, ps_while (by rw [ok.nx]; exact .never) pc pb, fun ρ W σ Γ E rl w => ?_⟩
  obtain ⟨o, Γ', e0, w0⟩ := wp_ok w
  obtain ⟨n, hn⟩ := mWhile_some mc mb e0
  have w1 : wp (whileF mc mb n Γ) (Ends.at G.K C.io ρ W E) := by rw [hn]; exact w0
  refine ⟨fun m σ H => ∃ Wx Γx, Wx.H = H ∧ Le W Wx ∧ Rl G.K C.io ρ Wx σ Γx ∧ wp (whileF mc mb m Γx) (Ends.at G.K C.io ρ W E), ⟨n, W, Γ, rfl, Le.refl _, rl, w1⟩, ?_⟩
  rintro m σ2 H2 ⟨Wx, Γx, rfl, lx, rx, wx⟩
  cases m with
  | zero => exact wx.elim
  | succ m =>
    refine qc ρ Wx σ2 Γx _ rx (wp_mono (wp_bind.mp wx) fun c Γ1 _ w2 W1 l1 r1 => ?_)
    cases c with
    | false => exact iteF (w2 σ2 W1 (lx.tr l1) r1)
    | true =>
      refine iteT ⟨fun σ' H' => ∃ Wy Γy, Wy.H = H' ∧ Le W Wy ∧ Rl G.K C.io ρ Wy σ' Γy ∧ wp (whileF mc mb m Γy) (Ends.at G.K C.io ρ W E), fun σ' H' z => ⟨m, Nat.lt_succ_self _, z⟩, ?_⟩
      have l2 : Le W W1 := lx.tr l1
      refine qb ρ W1 σ2 Γ1 _ r1 (wp_mono (wp_bind.mp w2) fun o Γ5 _ w5 => ?_)
      cases o with
      | nx => exact fun σ' W' l' r' => ⟨W', Γ5, rfl, l2.tr l', r', w5⟩
      | ct => exact fun σ' W' l' r' => ⟨W', Γ5, rfl, l2.tr l', r', w5⟩
      | bk => exact fun σ' W' l' r' => w5 σ' W' (l2.tr l') r'
      | rt t => exact fun v σ' W' B l' r' f => w5 v σ' W' B (l2.tr l') r' (Fre.pre (b := false) l2 f)⟩
end
end PM
set_option Elab.async false
set_option linter.all false
set_option maxRecDepth 100000
set_option maxHeartbeats 2000000
set_option autoImplicit false
namespace PM
open PySem PySem.Spec PyProof.Rows L2
/-! ### raw rules -/
section
variable {X : Cx}
theorem vals_signs {z : Str} {acc : Array Value} (h : ItemsOf (SignAt z) acc z.cps.size) : Vals ((z.cps.toList.map fun c => V.str ⟨#[c]⟩)) acc.toList := by
  refine vals_of_idx _ _ (by simp [h.1]) fun j u hu => ?_
  obtain ⟨c, t, hc, rfl⟩ := h.2 j u (by simpa using hu)
  exact ⟨.str ⟨#[c]⟩, by simp [hc], ⟨t, rfl⟩⟩
def rListTxt : List V → Hp → VK → Prop := fun xs H Q => ∃ z : Str, xs = [.str z] ∧ z.cps.size ≤ sizeLine ∧ ∀ p, H p = none → Q (.ref p) (upd H p (.lst (z.cps.toList.map fun c => V.str ⟨#[c]⟩)))
theorem cr_listTxt (hc : X.calm = true) : CallR X (.type "list") rListTxt := by
  rintro pins s σ H xs us Q I r ⟨z, rfl, hz, q⟩
  obtain ⟨t, rfl⟩ : ∃ t, us = [Value.str z t] := by
    cases r with
    | cons h k => cases k; obtain ⟨t, rfl⟩ := h; exact ⟨t, rfl⟩
  refine call_list_str (I.ok.hd hc) z t (fun h' tk acc c' hk hS ha => ?_) hz
  refine ⟨.ref s.heap.objs.size, _, I.laid (t' := tk) (o := .lst (z.cps.toList.map fun c => V.str ⟨#[c]⟩)) hk (Nat.le_refl _) ⟨by simpa using hz, acc.toList, c', vals_signs ha, by simpa using hS⟩, rfl, q _ (I.hok.fresh (Nat.le_refl _))⟩
def rSortS (K : PySem.W.Frag) : List V → Hp → VK → Prop := fun vs H Q => ∃ (a : Addr) (xs : List Str), vs = [V.ref a] ∧ SqL K H a (xs.map V.str) ∧ ∀ (ys : List Str) (p : Addr), ys.Perm xs → sortedS ys = true → H p = none → Q (.ref p) (upd H p (.lst (ys.map V.str)))
theorem cr_sortS : CallR X (.builtin "sorted") (rSortS X.K) := by
  rintro pins s σ H vs us Q I r ⟨a, xs, rfl, hs, q⟩
  obtain ⟨its, rv, hl, hlen⟩ := I.list hs
  rw [Vals.ref1 r]
  rw [List.length_map] at hlen
  have hlen0 := rv.length
  rw [List.length_map] at hlen0
  refine sorted_strsAny hl.isList rv.strs (by rw [← hlen0]; exact hlen) fun out ys h1 h2 h3 => ?_
  obtain ⟨ep, he'⟩ := sortedAll_at s.heap its out
  exact ⟨.ref _, upd H (s.heap.objs.size + 1) (.lst (ys.map V.str)), I.laid (t' := s.toks) (fun _ _ => sortedAll_old) (Nat.le_succ _) ⟨by rw [List.length_map, h2.length_eq]; exact hlen, out.toList, ep, vals_of_strs h1, he'⟩, rfl, q ys _ h2 h3 (I.hok.fresh (Nat.le_succ _))⟩
def chars (z : Str) : List Str := z.cps.toList.map fun c => ⟨#[c]⟩
def rSortTxt : List V → Hp → VK → Prop := fun vs H Q => ∃ z : Str, vs = [.str z] ∧ z.cps.size ≤ sizeLine ∧ ∀ (ys : List Str) (p : Addr), ys.Perm (chars z) → sortedS ys = true → H p = none → Q (.ref p) (upd H p (.lst (ys.map V.str)))
theorem cr_sortTxt (hcm : X.calm = true) : CallR X (.builtin "sorted") rSortTxt := by
  rintro pins s σ H vs us Q I r ⟨z, rfl, hz, q⟩
  obtain ⟨t, rfl⟩ : ∃ t, us = [Value.str z t] := by
    cases r with
    | cons h k => cases k; obtain ⟨t, rfl⟩ := h; exact ⟨t, rfl⟩
  refine Calls.call_function_entry kind_sorted plain_sorted entry_sorted (args_sorted1 _) ?_
  unfold Builtin.«sorted»
  refine wpAny_bind (m := checkCount "sorted" 1 1 _) (wpAny_pure ?_)
  refine wpAny_bind (wpAny_collect_str (A := X.A.in1) (show X.A.in1.handled = none from I.ok.hd hcm) z t (fun s' acc hk hg hd ho ha => ?_) hz)
  have hS : StrsAre acc.toList (chars z) := Vals.strs (by
    have := vals_signs ha
    unfold chars
    rw [List.map_map]
    exact this)
  have hlen : acc.toList.length ≤ sizeLine := by rw [Array.length_toList, ha.1]; exact hz
  refine wpAny_bind (wpAny_newList ?_)
  have hoL : (s'.heap.push (seqObj "list" acc.toList.toArray 0)).get? s'.heap.objs.size = some (seqObj "list" acc.toList.toArray 0) := Heap.get?_push_size _ rfl
  refine wpAny_bind (wpAny_holding (wpAny_call_entry slot_list_sort ⟨_, hoL, rfl⟩ entry_list_sort (list_sort_treeKAny strKind_oneLt hoL hS.keysOf (fun v₁ v₂ rest e => keyKind_strs (by rw [← e]; exact hS)) hlen fun st' hp hs => ⟨_, rfl, ?_⟩) (args_list_sort _)))
  obtain ⟨ys, h1, h2, h3⟩ := sorted_out_str hS hp hs
  obtain ⟨h1', g1, d1, t1, o1⟩ := s'
  obtain rfl : g1 = s.gens := hg
  obtain rfl : d1 = s.drawn := hd
  obtain rfl : o1 = s.os := ho
  have I' : Inv X pins σ H { s with heap := h1', toks := t1 } := I.kept hk
  obtain ⟨ep, he'⟩ := sortedHeap_at (vs := acc.toList) (out := (arrOf st').map (·.2)) hoL
  refine wpAny_pure ⟨_, rfl, .ref h1'.objs.size, upd H h1'.objs.size (.lst (ys.map V.str)), I'.laid (t' := t1) (fun b u e => ?_) (Nat.le_refl _) ⟨?_, _, ep, vals_of_strs h1, he'⟩, rfl, q ys _ h2 h3 (I'.hok.fresh (Nat.le_refl _))⟩
  · have hlt := Heap.lt_size e
    rw [sortedHeap_old (Nat.ne_of_lt hlt) (by rw [size_push']; exact Nat.lt_succ_of_lt hlt)]
    exact Heap.get?_push_of_some _ e
  · rw [List.length_map, h2.length_eq]
    unfold chars
    simpa using hz

/-! ### text[::-1] -/
def tRevS (te : TE) : TE := fun σ H Q => te σ H fun x H1 => ∃ z : Str, x = .str z ∧ z.length ≤ sizeLine ∧ Q (.str ⟨z.cps.toList.reverse.toArray⟩) H1
theorem rev_ix (z : Str) : (Builtin.Str.strSliceIndices none none (-1) z.length).filterMap (z.cps[·]?) = z.cps.toList.reverse := by
  have h : Builtin.Str.strSliceIndices none none (-1) z.length = sliceRange ((z.length : Int) - 1) (-1) (-1) := by
    unfold Builtin.Str.strSliceIndices
    simp
  rw [h, PySem.W.krv_sliceRange, PySem.W.krv_range, List.filterMap_reverse]
  exact congrArg List.reverse (PySem.W.krv_all z.cps)
theorem pe_revS {e : Expr} {te : TE} {k : Nat} {p1 p2 p3 pos : Pos} (he : PE X e te) : PE X (.Subscript e (.Slice none none (some (.UnaryOp .USub (.Constant (.int 1) k p1) p2)) p3) pos) (tRevS te) := by
  refine ⟨fun pins s σ H Q I h => Subscript_ (thn (he.run pins s σ H _ I h) ?_)⟩
  rintro v s1 ⟨x, H1, I1, r1, z, rfl, hz, q⟩
  obtain ⟨t, rfl⟩ := r1
  have hst : PO X (some (.UnaryOp .USub (.Constant (.int 1) k p1) p2)) (tPart (tUn (rU fun i => .int (-i)) (tC (.int 1)))) := po_some (pe_un un_neg pe_int)
  refine wpAny_Slice (thn (po_none.run pins s1 σ H1 (fun o H2 => o = none ∧ H2 = H1) I1 ⟨rfl, rfl⟩) ?_)
  rintro vl s2 ⟨l, H2, I2, pl, rfl, rfl⟩
  refine thn (po_none.run pins s2 σ H2 (fun o H3 => o = none ∧ H3 = H2) I2 ⟨rfl, rfl⟩) ?_
  rintro vu s3 ⟨u, H3, I3, pu, rfl, rfl⟩
  refine thn (hst.run pins s3 σ H3 (fun o H4 => o = some (-1) ∧ H4 = H3) I3 ⟨1, rfl, -1, rfl, rfl, rfl⟩) ?_
  rintro vs s4 ⟨o, H4, I4, ps, rfl, rfl⟩
  have I5 : Inv X pins σ H4 { s4 with heap := s4.heap.push { cls := .type "slice", data := .fields #[vl, vu, vs] } } := I4.kept (t' := s4.toks) fun b ob q => Heap.get?_push_of_some _ q
  obtain ⟨l, rfl, el⟩ := IsPart.raw pl
  obtain ⟨u, rfl, eu⟩ := IsPart.raw pu
  obtain ⟨w, rfl, ew⟩ := IsPart.raw ps
  show wpAny (model X.prog X.w) X.A (subscriptTail e (.Slice none none (some (.UnaryOp .USub (.Constant (.int 1) k p1) p2)) p3) (.str z t) (.ref s4.heap.objs.size)) (EP X pins σ Q) X.xe { s4 with heap := s4.heap.push { cls := .type "slice", data := .fields #[partValue l, partValue u, partValue w] } }
  refine tail_any (ops := [.str z t, .ref s4.heap.objs.size]) (typeIs_str _ _ _) (F.slot_str_getitem.lookup) ?_ (by with_unfolding_all rfl)
  refine wpAny_getItem_str_slice (l := l) (u := u) (st := w) ⟨_, Heap.get?_push_size _ rfl, rfl, rfl⟩ (by rw [ew]; rfl) ?_
  have hl : (⟨z.cps.toList.reverse.toArray⟩ : Str).length ≤ sizeLine := by
    show z.cps.toList.reverse.toArray.size ≤ sizeLine
    simpa using (show z.cps.size ≤ sizeLine from hz)
  unfold sliceMade slicePicked
  rw [el, eu, ew]
  show Made.post (if ((-1 : Int) == 1 && _) = true then _ else Made.str ⟨((Builtin.Str.strSliceIndices none none (-1) z.length).filterMap (z.cps[·]?)).toArray⟩) _ _
  rw [if_neg (by simp), rev_ix]
  exact ⟨hl, .str _, H4, I5.tok _, ⟨_, rfl⟩, q⟩

/-! ### repr -/
def rRepr (K : PySem.W.Frag) : List V → Hp → VK → Prop := fun xs H Q => ∃ x p, xs = [x] ∧ Dp K H x p ∧ p.showable = true ∧ p.hasDict = false ∧ p.depth ≤ 60 ∧ p.shown.length ≤ sizeLine ∧ Q (.str p.shown) H
theorem cr_repr (hg : X.A.guards = some []) (hu : X.A.units + 64 < cLine) : CallR X (.builtin "repr") (rRepr X.K) := by
  rintro pins s σ H xs us Q I r ⟨x, p, rfl, dp, hs, hd, hdp, hz, q⟩
  obtain ⟨u, rfl, ru⟩ : ∃ u, us = [u] ∧ RelV x u := by
    cases r with
    | cons h k => cases k; exact ⟨_, rfl, h⟩
  obtain ⟨as, rd⟩ := Dp.reads I p x u dp ru
  cases x with
  | ref a =>
    obtain rfl : u = Value.ref a := ru
    refine repr_of_reads' rd hs (fun z => by rw [hd] at z; cases z) hg (by omega) (fun b o e => e) (fun h' t tk k => ⟨.str p.shown, H, I.kept k, ⟨t, rfl⟩, q⟩) hz
  | non => cases dp; obtain rfl : u = Value.none := ru; exact PySem.P.repr_of_none ⟨.str _, H, I.tok _, ⟨_, rfl⟩, q⟩
  | bl b => cases dp; obtain rfl : u = Value.bool b := ru; exact PySem.P.repr_of_bool ⟨.str _, H, I.tok _, ⟨_, rfl⟩, by cases b <;> exact q⟩
  | int i => cases dp; obtain ⟨t, rfl⟩ := ru; exact PySem.P.repr_of_int (of_decide_eq_true hs) ⟨.str _, H, I.tok _, ⟨_, rfl⟩, q⟩
  | str z => cases dp; obtain ⟨t, rfl⟩ := ru; exact PySem.P.repr_of_str ⟨.str _, H, I.tok _, ⟨_, rfl⟩, q⟩ hz
  | byt _ => cases dp
  | flt _ => cases dp
  | ty _ => cases dp
end
/-! ### calls of builtins -/
def VF (K : PySem.W.Frag) (f : List D → Option T) (r : List V → Hp → VK → Prop) : Prop :=
  ∀ (F H : Hp) (ds : List D) (vs : List V) (t : T) (Q : VK), Sub F H → reps K F ds vs → f ds = some t → (∀ v F' H', Made K F H t v F' H' → Q v H') → r vs H Q
def VF1 (K : PySem.W.Frag) (f : D → Option T) (r : List V → Hp → VK → Prop) : Prop :=
  ∀ (F H : Hp) (d : D) (v : V) (t : T) (Q : VK), Sub F H → vw K F H d v → f d = some t → (∀ v F' H', Made K F H t v F' H' → Q v H') → r [v] H Q
def mFn (f : List D → Option T) (m : M (List D)) : M T := m.bind fun ds => opt (f ds)
@[simp] theorem mFn_ap (f : List D → Option T) (m : M (List D)) (Γ : Sl) : mFn f m Γ = (m Γ).bind fun d Γ1 => opt (f d) Γ1 := rfl
section
variable {G : Gb} {C : Ct} {b : Bool} {a e : Expr} {es : List Expr} {pos p : Pos} {x : Str}
abbrev PCall (G : Gb) (C : Ct) (x : Str) (p : Pos) (e : Expr) (es : List Expr) (pos : Pos) (r : List V → Hp → VK → Prop) : Prop := ∀ X t, OkX G C X → PA X (e :: es) t → PE X (.Call (.Name x p) (e :: es) [] pos) (tCB r t)
theorem so_b {f : List D → Option T} {r : List V → Hp → VK → Prop} {m : M (List D)} (hp : PCall G C x p e es pos r) (hv : VF G.K f r) (h : SA G C b (e :: es) m) : SO G C b (.Call (.Name x p) (e :: es) [] pos) (mFn f m) := ⟨fun z => pu_bind (h.pu z) fun c => pu_opt, fun X ok => by
  obtain ⟨t, pe, q⟩ := h.go X ok
  refine ⟨_, hp X t ok pe, fun ρ W σ Γ Q rl w => q ρ W σ Γ _ rl (wp_mono (wp_bind.mp w) fun ds Γ1 _ w1 vs W1 l1 r1 rs => ?_)⟩
  obtain ⟨t, e1, k⟩ := made_end (p := fun _ _ => True) l1 r1 w1
  exact hv W1.F W1.H ds vs t Q r1.sub rs e1 k⟩
theorem so_b1 {f : D → Option T} {r : List V → Hp → VK → Prop} {m : M D} (hp : PCall G C x p e [] pos r) (hv : VF1 G.K f r) (h : OP G C b e m) (hl : Pln e) : SO G C b (.Call (.Name x p) [e] [] pos) (mUn f m) := ⟨fun z => pu_bind (h.pu z) fun c => pu_opt, fun X ok => by
  obtain ⟨t, pe, q⟩ := h.go X ok
  refine ⟨_, hp X _ ok (pa_cons pe pa_nil (hl X.env [])), fun ρ W σ Γ Q rl w => q ρ W σ Γ _ rl (wp_mono (wp_bind.mp w) fun d Γ1 _ w1 v W1 l1 r1 vx => ?_)⟩
  obtain ⟨t, e1, k⟩ := made_end (p := fun _ _ => True) l1 r1 w1
  exact hv W1.F W1.H d v t Q r1.sub vx e1 k⟩
theorem pc_b {id : String} {r : List V → Hp → VK → Prop} (hc : ∀ X, OkX G C X → CallR X (.builtin id) r) (hx : Blt G C x) (hv : bootBuiltins x = some (.builtin id)) (hn : x ≠ "__name__") (hd : (x == ("__debug__" : Str)) = false) (hp : Pln e) (hpl : ∀ env, (backTo pos (starEach es env)).any (·.1) = false) : PCall G C x p e es pos r := fun X t ok pa => by
  have hg := ok.g
  subst hg
  exact pe_callB (hc X ok) (ok_gl ok hx.1) hx.2 hv pa hn hd (hp X.env es) (hpl X.env)
theorem pc_t {id : String} {r : List V → Hp → VK → Prop} (hc : ∀ X, OkX G C X → CallR X (.type id) r) (hx : Blt G C x) (hv : bootBuiltins x = some (.type id)) (hn : x ≠ "__name__") (hd : (x == ("__debug__" : Str)) = false) (hp : Pln e) (hpl : ∀ env, (backTo pos (starEach es env)).any (·.1) = false) : PCall G C x p e es pos r := fun X t ok pa => by
  have hg := ok.g
  subst hg
  exact pe_callTy (hc X ok) (ok_gl ok hx.1) hx.2 hv pa hn hd (hp X.env es) (hpl X.env)
theorem pc_g {id : String} {r : List V → Hp → VK → Prop} (hc : ∀ X, OkX G C X → CallR X (.builtin id) r) (hx : C.sc.names.lookup x = some .globalImplicit) (hm : G.mg x = some (.builtin id)) (hd : (x == ("__debug__" : Str)) = false) (hp : Pln e) (hpl : ∀ env, (backTo pos (starEach es env)).any (·.1) = false) : PCall G C x p e es pos r := fun X t ok pa => by
  have hg := ok.g
  subst hg
  exact pe_callBfun (hc X ok) (ok_gl ok hx) hm pa hd (hp X.env es) (hpl X.env)
/-! #### len -/
def dLen : D → Option T
  | .lst xs => some (.sh (.int xs.length))
  | .frz xs => some (.sh (.int xs.length))
  | .tup xs => some (.sh (.int xs.length))
  | .str s => if s.length ≤ line then some (.sh (.int s.length)) else none
  | _ => none
def rLen (K : PySem.W.Frag) : List V → Hp → VK → Prop := fun xs H Q => ∃ x n, xs = [x] ∧ LenV K x H n ∧ Q (.int n) H
theorem v_len (K : PySem.W.Frag) : VF1 K dLen (rLen K) := by
  intro F H d v t Q s hx e k
  unfold dLen at e
  split at e
  · cases e; obtain ⟨p, vs, e1, a, r⟩ := hx; refine ⟨v, _, rfl, ?_, k _ _ _ (.same rfl)⟩; rw [e1]; exact .inl ⟨vs, .inl (.inl a), reps_len r⟩
  · cases e; obtain ⟨p, vs, e1, a, r⟩ := hx; refine ⟨v, _, rfl, ?_, k _ _ _ (.same rfl)⟩; rw [e1]; exact .inl ⟨vs, sql_sub s a, reps_len r⟩
  · cases e; obtain ⟨p, vs, e1, a, r⟩ := hx; refine ⟨v, _, rfl, ?_, k _ _ _ (.same rfl)⟩; rw [e1]; exact .inr ⟨vs, .inl (.inl (s _ _ a)), reps_len r⟩
  · split at e
    · rename_i z hl
      cases e
      refine ⟨v, _, rfl, ?_, k _ _ _ (.same rfl)⟩
      rw [show v = .str (tx z) from hx]
      exact ⟨by rw [tx_len]; exact line_le hl, (tx_len z).symm⟩
    · cases e
  · cases e
theorem so_len {m : M D} (hx : Blt G C "len") (h : OP G C b e m) (hl : Pln e) : SO G C b (.Call (.Name "len" p) [e] [] pos) (mUn dLen m) :=
  so_b1 (pc_b (fun X ok => by obtain rfl := ok.g; exact call_len) hx rfl (by decide) (by decide) hl fun _ => rfl) (v_len G.K) h hl
/-! #### int, abs, max, min -/
def dInt : D → Option T
  | .int i => some (.sh (.int i))
  | .bl k => some (.sh (.int (if k then 1 else 0)))
  | _ => none
theorem so_int {m : M D} (hx : Blt G C "int") (h : OP G C b e m) (hl : Pln e) : SO G C b (.Call (.Name "int" p) [e] [] pos) (mUn dInt m) :=
  so_b1 (pc_t (fun X ok => call_int1) hx rfl (by decide) (by decide) hl fun _ => rfl) (fun F H d v t Q s hx e k => by
    unfold dInt at e
    split at e
    · cases e; exact .inl ⟨_, by rw [show v = .int _ from hx], k _ _ _ (.same rfl)⟩
    · cases e; exact .inr ⟨_, by rw [show v = .bl _ from hx], k _ _ _ (.same rfl)⟩
    · cases e) h hl
def dAbs : D → Option T
  | .int i => some (.sh (.int (if i < 0 then -i else i)))
  | _ => none
theorem so_abs {m : M D} (hx : Blt G C "abs") (h : OP G C b e m) (hl : Pln e) : SO G C b (.Call (.Name "abs" p) [e] [] pos) (mUn dAbs m) :=
  so_b1 (pc_b (fun X ok => call_abs) hx rfl (by decide) (by decide) hl fun _ => rfl) (fun F H d v t Q s hx e k => by
    unfold dAbs at e
    split at e
    · cases e; exact ⟨_, by rw [show v = .int _ from hx], k _ _ _ (.same rfl)⟩
    · cases e) h hl
theorem reps2 {K : PySem.W.Frag} {F : Hp} {d1 d2 : D} {vs : List V} (h : reps K F [d1, d2] vs) : ∃ v1 v2, vs = [v1, v2] ∧ rep K F d1 v1 ∧ rep K F d2 v2 := by
  obtain ⟨v1, us, rfl, r1, v2, us2, rfl, r2, e⟩ := h
  obtain rfl : us2 = [] := e
  exact ⟨v1, v2, rfl, r1, r2⟩
def dMax2 : List D → Option T
  | [.int i, .int j] => some (.sh (.int (if j > i then j else i)))
  | _ => none
def dMin2 : List D → Option T
  | [.int i, .int j] => some (.sh (.int (if j < i then j else i)))
  | _ => none
theorem so_max2 {m : M (List D)} (hx : Blt G C "max") (h : SA G C b [a, e] m) (hl : Pln a) (hpl : ∀ env, (backTo pos (starEach [e] env)).any (·.1) = false) : SO G C b (.Call (.Name "max" p) [a, e] [] pos) (mFn dMax2 m) :=
  so_b (pc_b (fun X ok => call_max2 ok.calm) hx rfl (by decide) (by decide) hl hpl) (fun F H ds vs t Q s hx e k => by
    unfold dMax2 at e
    split at e
    · cases e; obtain ⟨v1, v2, rfl, r1, r2⟩ := reps2 hx; obtain rfl : v1 = _ := r1; obtain rfl : v2 = _ := r2; exact ⟨_, _, rfl, k _ _ _ (.same rfl)⟩
    · cases e) h
theorem so_min2 {m : M (List D)} (hx : Blt G C "min") (h : SA G C b [a, e] m) (hl : Pln a) (hpl : ∀ env, (backTo pos (starEach [e] env)).any (·.1) = false) : SO G C b (.Call (.Name "min" p) [a, e] [] pos) (mFn dMin2 m) :=
  so_b (pc_b (fun X ok => call_min2 ok.calm) hx rfl (by decide) (by decide) hl hpl) (fun F H ds vs t Q s hx e k => by
    unfold dMin2 at e
    split at e
    · cases e; obtain ⟨v1, v2, rfl, r1, r2⟩ := reps2 hx; obtain rfl : v1 = _ := r1; obtain rfl : v2 = _ := r2; exact ⟨_, _, rfl, k _ _ _ (.same rfl)⟩
    · cases e) h
def dGcd : List D → Option T
  | [.int i, .int j] => some (.sh (.int ((Nat.gcd i.natAbs j.natAbs : Nat) : Int)))
  | _ => none
theorem so_gcd {m : M (List D)} (hx : C.sc.names.lookup x = some .globalImplicit) (hm : G.mg x = some (.builtin "math.gcd")) (hd : (x == ("__debug__" : Str)) = false) (h : SA G C b [a, e] m) (hl : Pln a) (hpl : ∀ env, (backTo pos (starEach [e] env)).any (·.1) = false) : SO G C b (.Call (.Name x p) [a, e] [] pos) (mFn dGcd m) :=
  so_b (pc_g (fun X ok => cr_gcd) hx hm hd hl hpl) (fun F H ds vs t Q s hx e k => by
    unfold dGcd at e
    split at e
    · cases e; obtain ⟨v1, v2, rfl, r1, r2⟩ := reps2 hx; obtain rfl : v1 = _ := r1; obtain rfl : v2 = _ := r2; exact ⟨_, _, rfl, k _ _ _ (.same rfl)⟩
    · cases e) h
/-! #### list(..) -/
def dList : D → Option T
  | .lst xs => some (.fl xs)
  | .frz xs => some (.fl xs)
  | .tup xs => some (.fl xs)
  | .str s => if s.length ≤ line then some (.fl (signs s)) else none
  | _ => none
def rListU (K : PySem.W.Frag) : List V → Hp → VK → Prop := fun xs H Q => (∃ p ys, xs = [.ref p] ∧ (SqL K H p ys ∨ SqT K H p ys) ∧ ∀ l, H l = none → Q (.ref l) (upd H l (.lst ys))) ∨ rListTxt xs H Q
theorem reps_signs {K : PySem.W.Frag} {F : Hp} : ∀ s : Txt, reps K F (signs s) (s.map fun c => V.str ⟨#[c]⟩)
  | [] => rfl
  | c :: s => reps_cons rfl (reps_signs s)
theorem so_list {m : M D} (hx : Blt G C "list") (h : OP G C b e m) (hl : Pln e) : SO G C b (.Call (.Name "list" p) [e] [] pos) (mUn dList m) :=
  so_b1 (r := rListU G.K) (pc_t (fun X ok => by obtain rfl := ok.g; exact CallR.or call_list_of (cr_listTxt ok.calm)) hx rfl (by decide) (by decide) hl fun _ => rfl) (fun F H d v t Q s hx e k => by
    unfold dList at e
    split at e
    · cases e; obtain ⟨p, vs, rfl, a, r⟩ := hx; exact .inl ⟨p, vs, rfl, .inl (.inl (.inl a)), fun l hl => k _ _ _ (.lst hl r)⟩
    · cases e; obtain ⟨p, vs, rfl, a, r⟩ := hx; exact .inl ⟨p, vs, rfl, .inl (sql_sub s a), fun l hl => k _ _ _ (.lst hl r)⟩
    · cases e; obtain ⟨p, vs, rfl, a, r⟩ := hx; exact .inl ⟨p, vs, rfl, .inr (.inl (.inl (s _ _ a))), fun l hl => k _ _ _ (.lst hl r)⟩
    · split at e
      · rename_i z hz
        cases e
        refine .inr ⟨tx z, by rw [show v = .str (tx z) from hx], by have := tx_len z; exact line_le (by rw [show (tx z).cps.size = z.length from this]; exact hz), fun l hl => k _ _ _ (.lst hl ?_)⟩
        have : (tx z).cps.toList = z := by simp [tx]
        rw [this]
        exact reps_signs z
      · cases e
    · cases e) h hl
/-! #### repr -/
def dRepr (d : D) : Option T := d.py.bind fun p => if p.showable = true ∧ p.hasDict = false ∧ p.depth ≤ 60 ∧ p.shown.length ≤ line then some (.sh (.str p.shown.cps.toList)) else none
theorem so_repr {m : M D} (hx : Blt G C "repr") (h : OP G C b e m) (hl : Pln e) : SO G C b (.Call (.Name "repr" p) [e] [] pos) (mUn dRepr m) :=
  so_b1 (r := rRepr G.K) (pc_b (fun X ok => by obtain rfl := ok.g; exact cr_repr ok.gd ok.room.units) hx rfl (by decide) (by decide) hl fun _ => rfl) (fun F H d v t Q s hx e k => by
    obtain ⟨p, hp, e1⟩ := Option.bind_eq_some_iff.mp e
    split at e1
    · rename_i hh
      cases e1
      refine ⟨v, p, rfl, dp_vw s hx hp, hh.1, hh.2.1, hh.2.2.1, line_le hh.2.2.2, ?_⟩
      have : p.shown = tx p.shown.cps.toList := by simp [tx]
      exact k _ _ _ (.same (show V.str p.shown = V.str (tx p.shown.cps.toList) by rw [← this]))
    · cases e1) h hl
end
end PM
set_option Elab.async false
set_option linter.all false
set_option maxRecDepth 100000
set_option maxHeartbeats 2000000
set_option autoImplicit false
namespace PM
open PySem PySem.Spec PyProof.Rows L2
/-! ### sorting, in plain Lean -/
section
variable {α : Type} (lt : α → α → Bool)
def insT (x : α) : List α → List α
  | [] => [x]
  | y :: ys => if lt y x = true then y :: insT x ys else x :: y :: ys
def sortT : List α → List α
  | [] => []
  | x :: xs => insT lt x (sortT xs)
def Up (l : List α) : Prop := l.Pairwise fun a b => lt b a = false
theorem insT_perm (x : α) : ∀ l, (insT lt x l).Perm (x :: l)
  | [] => .refl _
  | y :: ys => by
    unfold insT
    split
    · exact ((insT_perm x ys).cons y).trans (.swap x y ys)
    · exact .refl _
theorem sortT_perm : ∀ l, (sortT lt l).Perm l
  | [] => .refl _
  | x :: xs => (insT_perm lt x _).trans ((sortT_perm xs).cons x)
theorem mem_insT {x z : α} {l : List α} : z ∈ insT lt x l ↔ z = x ∨ z ∈ l := by
  rw [(insT_perm lt x l).mem_iff, List.mem_cons]
theorem insT_up (tot : ∀ a b, lt a b = true → lt b a = false) (tr : ∀ a b c, lt b a = false → lt c b = false → lt c a = false) (x : α) : ∀ l, Up lt l → Up lt (insT lt x l)
  | [], _ => List.pairwise_singleton ..
  | y :: ys, h => by
    obtain ⟨h1, h2⟩ := List.pairwise_cons.mp h
    unfold insT
    split
    · rename_i hl
      refine List.pairwise_cons.mpr ⟨fun z hz => ?_, insT_up tot tr x ys h2⟩
      rcases (mem_insT lt).mp hz with rfl | hz
      · exact tot _ _ hl
      · exact h1 z hz
    · rename_i hl
      have hl : lt y x = false := by simpa using hl
      refine List.pairwise_cons.mpr ⟨fun z hz => ?_, h⟩
      rcases List.mem_cons.mp hz with rfl | hz
      · exact hl
      · exact tr _ _ _ hl (h1 z hz)
theorem sortT_up (tot : ∀ a b, lt a b = true → lt b a = false) (tr : ∀ a b c, lt b a = false → lt c b = false → lt c a = false) : ∀ l, Up lt (sortT lt l)
  | [] => List.Pairwise.nil
  | x :: xs => insT_up lt tot tr x _ (sortT_up tot tr xs)
theorem up_unique (anti : ∀ a b, lt a b = false → lt b a = false → a = b) : ∀ {l m : List α}, l.Perm m → Up lt l → Up lt m → l = m
  | [], m, p, _, _ => (List.nil_perm.mp p).symm
  | x :: xs, [], p, _, _ => by cases List.perm_nil.mp p
  | x :: xs, y :: ys, p, hl, hm => by
    obtain ⟨l1, l2⟩ := List.pairwise_cons.mp hl
    obtain ⟨m1, m2⟩ := List.pairwise_cons.mp hm
    have e : x = y := by
      have hx : x ∈ y :: ys := p.mem_iff.mp List.mem_cons_self
      have hy : y ∈ x :: xs := p.mem_iff.mpr List.mem_cons_self
      rcases List.mem_cons.mp hx with e | hx
      · exact e
      · rcases List.mem_cons.mp hy with e | hy
        · exact e.symm
        · exact anti _ _ (m1 x hx) (l1 y hy)
    subst e
    rw [up_unique anti ((List.perm_cons _).mp p) l2 m2]
end
theorem ltc_asym : ∀ a b : Txt, ltCps a b = true → ltCps b a = false
  | [], [], h => by cases h
  | [], _ :: _, _ => rfl
  | _ :: _, [], h => by cases h
  | a :: r, b :: t, h => by
    unfold ltCps at h ⊢
    rcases Bool.or_eq_true_iff.mp h with h | h
    · have := of_decide_eq_true h
      have h1 : ¬ b < a := by omega
      have h2 : ¬ b = a := by omega
      simp [h1, h2]
    · obtain ⟨h1, h2⟩ := Bool.and_eq_true_iff.mp h
      have e : a = b := beq_iff_eq.mp h1
      subst e
      simp [ltc_asym r t h2]
theorem ltc_anti : ∀ a b : Txt, ltCps a b = false → ltCps b a = false → a = b
  | [], [], _, _ => rfl
  | [], _ :: _, h, _ => by cases h
  | _ :: _, [], _, h => by cases h
  | a :: r, b :: t, h, k => by
    unfold ltCps at h k
    obtain ⟨h1, h2⟩ := Bool.or_eq_false_iff.mp h
    obtain ⟨k1, k2⟩ := Bool.or_eq_false_iff.mp k
    have h1 := of_decide_eq_false h1
    have k1 := of_decide_eq_false k1
    have e : a = b := by omega
    subst e
    simp at h2 k2
    rw [ltc_anti r t h2 k2]
theorem ltc_tr : ∀ a b c : Txt, ltCps b a = false → ltCps c b = false → ltCps c a = false
  | [], [], c, _, k => k
  | [], _ :: _, [], _, k => rfl
  | [], b :: t, c :: u, h, k => rfl
  | _ :: _, [], _, h, _ => by cases h
  | _ :: _, _ :: _, [], _, k => by cases k
  | a :: r, b :: t, c :: u, h, k => by
    unfold ltCps at h k ⊢
    obtain ⟨h1, h2⟩ := Bool.or_eq_false_iff.mp h
    obtain ⟨k1, k2⟩ := Bool.or_eq_false_iff.mp k
    have h1 := of_decide_eq_false h1
    have k1 := of_decide_eq_false k1
    refine Bool.or_eq_false_iff.mpr ⟨decide_eq_false (by omega), ?_⟩
    by_cases e : c = a
    · subst e
      have e2 : b = c := by omega
      subst e2
      simp at h2 k2
      simp [ltc_tr r t u h2 k2]
    · simp [e]
abbrev sortTx : List Txt → List Txt := sortT ltCps
theorem rising_up : ∀ (r : List Str) (x : Str), risingS x r = true → Up ltCps ((x :: r).map (·.cps.toList))
  | [], x, _ => List.pairwise_singleton ..
  | y :: r, x, h => by
    obtain ⟨h1, h2⟩ := Bool.and_eq_true_iff.mp (show (!ltCps y.cps.toList x.cps.toList && risingS y r) = true from h)
    have ih := rising_up r y h2
    have h1 : ltCps y.cps.toList x.cps.toList = false := by simpa using h1
    refine List.pairwise_cons.mpr ⟨fun z hz => ?_, ih⟩
    rcases List.mem_cons.mp (show z ∈ y.cps.toList :: r.map (·.cps.toList) from hz) with rfl | hz
    · exact h1
    · exact ltc_tr _ _ _ h1 ((List.pairwise_cons.mp ih).1 z hz)
theorem sorted_eq {ys : List Str} {zs : List Txt} (p : ys.Perm (zs.map tx)) (h : sortedS ys = true) : ys = (sortTx zs).map tx := by
  have e : ys.map (·.cps.toList) = sortTx zs := by
    refine up_unique ltCps ltc_anti ?_ ?_ (sortT_up ltCps ltc_asym ltc_tr zs)
    · have := p.map (·.cps.toList)
      rw [List.map_map] at this
      have e2 : zs.map ((fun z : Str => z.cps.toList) ∘ tx) = zs := by
        conv => rhs; rw [← List.map_id zs]
        apply List.map_congr_left
        intro a _
        simp [tx]
      rw [e2] at this
      exact this.trans (sortT_perm ltCps zs).symm
    · cases ys with
      | nil => exact List.Pairwise.nil
      | cons y r => exact rising_up r y h
  rw [← e, List.map_map]
  conv => lhs; rw [← List.map_id ys]
  apply List.map_congr_left
  intro a _
  simp [tx]
end PM
set_option Elab.async false
set_option linter.all false
set_option maxRecDepth 100000
set_option maxHeartbeats 2000000
set_option autoImplicit false
namespace PM
open PySem PySem.Spec PyProof.Rows L2
/-! ### lists of texts, of ints -/
def strs? : List D → Option (List Txt)
  | [] => some []
  | .str s :: ds => (strs? ds).map (s :: ·)
  | _ => none
def ints? : List D → Option (List Int)
  | [] => some []
  | .int i :: ds => (ints? ds).map (i :: ·)
  | _ => none
@[simp] theorem strs_nil : strs? [] = some [] := rfl
@[simp] theorem strs_cons (s : Txt) (ds : List D) : strs? (.str s :: ds) = (strs? ds).map (s :: ·) := rfl
@[simp] theorem ints_nil : ints? [] = some [] := rfl
@[simp] theorem ints_cons (s : Int) (ds : List D) : ints? (.int s :: ds) = (ints? ds).map (s :: ·) := rfl
@[simp] theorem strs_map (ss : List Txt) : strs? (ss.map .str) = some ss := by
  induction ss with
  | nil => rfl
  | cons s ss ih => rw [List.map_cons, strs_cons, ih]; rfl
@[simp] theorem ints_map (ss : List Int) : ints? (ss.map .int) = some ss := by
  induction ss with
  | nil => rfl
  | cons s ss ih => rw [List.map_cons, ints_cons, ih]; rfl
section
variable {K : PySem.W.Frag} {F : Hp}
theorem strs_reps : ∀ (ds : List D) (vs : List V) (ss : List Txt), reps K F ds vs → strs? ds = some ss → vs = (ss.map tx).map V.str
  | [], vs, ss, h, e => by
    rw [strs_nil] at e
    cases e; exact h
  | d :: ds, vs, ss, h, e => by
    obtain ⟨w, ws, rfl, a, r⟩ := h
    cases d with
    | str s =>
      rw [strs_cons] at e
      obtain ⟨ss', e', rfl⟩ := Option.map_eq_some_iff.mp e
      have ea : w = .str (tx s) := a
      rw [strs_reps ds ws ss' r e', ea]; rfl
    | _ => unfold strs? at e; cases e
theorem ints_reps : ∀ (ds : List D) (vs : List V) (ss : List Int), reps K F ds vs → ints? ds = some ss → vs = ss.map V.int
  | [], vs, ss, h, e => by
    rw [ints_nil] at e
    cases e; exact h
  | d :: ds, vs, ss, h, e => by
    obtain ⟨w, ws, rfl, a, r⟩ := h
    cases d with
    | int s =>
      rw [ints_cons] at e
      obtain ⟨ss', e', rfl⟩ := Option.map_eq_some_iff.mp e
      have ea : w = .int s := a
      rw [ints_reps ds ws ss' r e', ea]; rfl
    | _ => unfold ints? at e; cases e
theorem reps_strs : ∀ ss : List Txt, reps K F (ss.map .str) ((ss.map tx).map V.str)
  | [] => rfl
  | s :: ss => reps_cons rfl (reps_strs ss)
theorem reps_ints : ∀ ss : List Int, reps K F (ss.map .int) (ss.map V.int)
  | [] => rfl
  | s :: ss => reps_cons rfl (reps_ints ss)
end
section
variable {G : Gb} {C : Ct} {b : Bool} {a e : Expr} {es : List Expr} {pos p apos : Pos} {x : Str}
/-! #### sorted -/
def dSorted : D → Option T
  | .lst xs => (strs? xs).map fun ss => .fl ((sortTx ss).map .str)
  | .frz xs => (strs? xs).map fun ss => .fl ((sortTx ss).map .str)
  | .str s => if s.length ≤ line then some (.fl ((sortTx (s.map fun c => [c])).map .str)) else none
  | _ => none
def rSortU (K : PySem.W.Frag) : List V → Hp → VK → Prop := fun xs H Q => rSortS K xs H Q ∨ rSortTxt xs H Q
theorem chars_tx (s : Txt) : chars (tx s) = (s.map fun c => [c]).map tx := by
  unfold chars
  have : (tx s).cps.toList = s := by simp [tx]
  rw [this, List.map_map]
  rfl
theorem so_sorted {m : M D} (hx : Blt G C "sorted") (h : OP G C b e m) (hl : Pln e) : SO G C b (.Call (.Name "sorted" p) [e] [] pos) (mUn dSorted m) :=
  so_b1 (r := rSortU G.K) (pc_b (fun X ok => by obtain rfl := ok.g; exact CallR.or cr_sortS (cr_sortTxt ok.calm)) hx rfl (by decide) (by decide) hl fun _ => rfl) (fun F H d v t Q s hx e k => by
    have go : ∀ (p : Addr) (vs : List V) (xs : List D) (ss : List Txt), SqL G.K H p vs → reps G.K F xs vs → strs? xs = some ss → (∀ v F' H', Made G.K F H (.fl ((sortTx ss).map .str)) v F' H' → Q v H') → rSortU G.K [.ref p] H Q := fun p vs xs ss a r e k => by
      have := strs_reps _ _ _ r e
      subst this
      refine .inl ⟨p, _, rfl, a, fun ys l hp hs hl => ?_⟩
      rw [sorted_eq hp hs]
      exact k _ _ _ (.lst hl (reps_strs _))
    unfold dSorted at e
    split at e
    · obtain ⟨ss, e1, rfl⟩ := Option.map_eq_some_iff.mp e
      obtain ⟨p, vs, rfl, a, r⟩ := hx
      exact go p vs _ ss (.inl (.inl a)) r e1 k
    · obtain ⟨ss, e1, rfl⟩ := Option.map_eq_some_iff.mp e
      obtain ⟨p, vs, rfl, a, r⟩ := hx
      exact go p vs _ ss (sql_sub s a) r e1 k
    · split at e
      · rename_i z hz
        cases e
        refine .inr ⟨tx z, by rw [show v = .str (tx z) from hx], by have := tx_len z; exact line_le (by rw [show (tx z).cps.size = z.length from this]; exact hz), fun ys l hp hs hl => ?_⟩
        rw [chars_tx] at hp
        rw [sorted_eq hp hs]
        exact k _ _ _ (.lst hl (reps_strs _))
      · cases e
    · cases e) h hl
/-! #### sum, max, min of a list of ints -/
def dSum (d : D) : Option T := (d.lst?.bind ints?).map fun ns => .sh (.int ns.sum)
theorem so_sum {m : M D} (hx : Blt G C "sum") (h : OP G C b e m) (hl : Pln e) : SO G C b (.Call (.Name "sum" p) [e] [] pos) (mUn dSum m) :=
  so_b1 (r := rSum G.K) (pc_b (fun X ok => by obtain rfl := ok.g; exact cr_sum ok.calm) hx rfl (by decide) (by decide) hl fun _ => rfl) (fun F H d v t Q s hx e k => by
    obtain ⟨ns, e1, rfl⟩ := Option.map_eq_some_iff.mp e
    obtain ⟨xs, e2, e3⟩ := Option.bind_eq_some_iff.mp e1
    obtain ⟨p, vs, rfl, a, r⟩ := lst_vw s hx e2
    have := ints_reps _ _ _ r e3
    subst this
    exact ⟨p, ns, rfl, a, k _ _ _ (.same rfl)⟩) h hl
def maxI : List Int → Int
  | [] => 0
  | [x] => x
  | x :: xs => if maxI xs < x then x else maxI xs
def minI : List Int → Int
  | [] => 0
  | [x] => x
  | x :: xs => if x < minI xs then x else minI xs
theorem maxI_spec : ∀ {l : List Int}, l ≠ [] → maxI l ∈ l ∧ ∀ y ∈ l, y ≤ maxI l
  | [], h => (h rfl).elim
  | [x], _ => ⟨List.mem_singleton.mpr rfl, fun y hy => by rw [List.mem_singleton.mp hy]; exact Int.le_refl _⟩
  | x :: z :: xs, _ => by
    obtain ⟨h1, h2⟩ := maxI_spec (l := z :: xs) (by simp)
    show (if maxI (z :: xs) < x then x else maxI (z :: xs)) ∈ _ ∧ _
    have e : maxI (x :: z :: xs) = if maxI (z :: xs) < x then x else maxI (z :: xs) := rfl
    rw [e]
    split
    · rename_i hl
      refine ⟨List.mem_cons_self, fun y hy => ?_⟩
      rcases List.mem_cons.mp hy with rfl | hy
      · exact Int.le_refl _
      · have := h2 y hy; omega
    · rename_i hl
      refine ⟨List.mem_cons_of_mem _ h1, fun y hy => ?_⟩
      rcases List.mem_cons.mp hy with rfl | hy
      · omega
      · exact h2 y hy
theorem minI_spec : ∀ {l : List Int}, l ≠ [] → minI l ∈ l ∧ ∀ y ∈ l, minI l ≤ y
  | [], h => (h rfl).elim
  | [x], _ => ⟨List.mem_singleton.mpr rfl, fun y hy => by rw [List.mem_singleton.mp hy]; exact Int.le_refl _⟩
  | x :: z :: xs, _ => by
    obtain ⟨h1, h2⟩ := minI_spec (l := z :: xs) (by simp)
    have e : minI (x :: z :: xs) = if x < minI (z :: xs) then x else minI (z :: xs) := rfl
    rw [e]
    split
    · rename_i hl
      refine ⟨List.mem_cons_self, fun y hy => ?_⟩
      rcases List.mem_cons.mp hy with rfl | hy
      · exact Int.le_refl _
      · have := h2 y hy; omega
    · rename_i hl
      refine ⟨List.mem_cons_of_mem _ h1, fun y hy => ?_⟩
      rcases List.mem_cons.mp hy with rfl | hy
      · omega
      · exact h2 y hy
def dMax (d : D) : Option T := (d.lst?.bind ints?).bind fun ns => if ns = [] then none else some (.sh (.int (maxI ns)))
def dMin (d : D) : Option T := (d.lst?.bind ints?).bind fun ns => if ns = [] then none else some (.sh (.int (minI ns)))
theorem so_max {m : M D} (hx : Blt G C "max") (h : OP G C b e m) (hl : Pln e) : SO G C b (.Call (.Name "max" p) [e] [] pos) (mUn dMax m) :=
  so_b1 (r := rMax G.K) (pc_b (fun X ok => by obtain rfl := ok.g; exact cr_max ok.calm) hx rfl (by decide) (by decide) hl fun _ => rfl) (fun F H d v t Q s hx e k => by
    obtain ⟨ns, e1, e4⟩ := Option.bind_eq_some_iff.mp e
    obtain ⟨xs, e2, e3⟩ := Option.bind_eq_some_iff.mp e1
    split at e4
    · cases e4
    · rename_i hne
      cases e4
      obtain ⟨p, vs, rfl, a, r⟩ := lst_vw s hx e2
      have := ints_reps _ _ _ r e3
      subst this
      obtain ⟨h1, h2⟩ := maxI_spec hne
      refine ⟨p, ns, rfl, a, List.length_pos_iff.mpr hne, fun m hm hy => ?_⟩
      have : m = maxI ns := Int.le_antisymm (h2 m hm) (hy _ h1)
      rw [this]
      exact k _ _ _ (.same rfl)) h hl
theorem so_min {m : M D} (hx : Blt G C "min") (h : OP G C b e m) (hl : Pln e) : SO G C b (.Call (.Name "min" p) [e] [] pos) (mUn dMin m) :=
  so_b1 (r := rMin G.K) (pc_b (fun X ok => by obtain rfl := ok.g; exact cr_min ok.calm) hx rfl (by decide) (by decide) hl fun _ => rfl) (fun F H d v t Q s hx e k => by
    obtain ⟨ns, e1, e4⟩ := Option.bind_eq_some_iff.mp e
    obtain ⟨xs, e2, e3⟩ := Option.bind_eq_some_iff.mp e1
    split at e4
    · cases e4
    · rename_i hne
      cases e4
      obtain ⟨p, vs, rfl, a, r⟩ := lst_vw s hx e2
      have := ints_reps _ _ _ r e3
      subst this
      obtain ⟨h1, h2⟩ := minI_spec hne
      refine ⟨p, ns, rfl, a, List.length_pos_iff.mpr hne, fun m hm hy => ?_⟩
      have : m = minI ns := Int.le_antisymm (hy _ h1) (h2 m hm)
      rw [this]
      exact k _ _ _ (.same rfl)) h hl
/-! #### isinstance of an own class -/
def mIsC (c : Str) (m : M D) : M D := m.bind fun d => opt (if isC c d = true then some (.bl true) else none)
@[simp] theorem mIsC_ap (c : Str) (m : M D) (Γ : Sl) : mIsC c m Γ = (m Γ).bind fun d Γ1 => opt (if isC c d = true then some (D.bl true) else none) Γ1 := rfl
theorem se_isC {m : M D} {c : Str} {p2 : Pos} (hx : Blt G C "isinstance") (hc : C8.InsC G.K (He.ga G.K c)) (hm : G.mg x = some (.ref (He.ga G.K c))) (hxx : C.sc.names.lookup x = some .globalImplicit) (hd : (x == ("__debug__" : Str)) = false) (h : SE G C b e m) (hl : Pln e) :
    SE G C b (.Call (.Name "isinstance" p) [e, .Name x p2] [] pos) (mIsC c m) := ⟨fun z => pu_bind (h.pu z) fun c => pu_opt, fun X ok => by
  obtain ⟨t, pe, q⟩ := h.go X ok
  have hg := ok.g
  subst hg
  refine ⟨_, pe_callB (C8.call_isC hc) (ok_gl ok hx.1) hx.2 rfl (pa_cons pe (pa_cons (C8.pe_gc (v := .ref (He.ga X.K c)) (ok_gl ok hxx) ⟨_, hm, rfl⟩ hd) pa_nil rfl) (hl X.env _)) (by decide) (by decide) (hl X.env _) rfl, fun ρ W σ Γ Q rl w => ?_⟩
  refine q ρ W σ Γ _ rl (wp_mono (wp_bind.mp w) fun d Γ1 em w1 v W1 l1 r1 rp => ?_)
  split at w1
  · rename_i hi
    obtain ⟨a, dx, gs, rfl, ea⟩ := isC_rep r1.sub rp hi
    exact ⟨a, dx, gs, rfl, ea, w1 _ W1 l1 r1 rfl⟩
  · exact w1.elim⟩
/-! #### methods of texts -/
def VM (K : PySem.W.Frag) (f : D → D → Option T) (r : V → List V → Hp → VK → Prop) : Prop :=
  ∀ (F H : Hp) (dx dy : D) (v u : V) (t : T) (Q : VK), Sub F H → vw K F H dx v → vw K F H dy u → f dx dy = some t → (∀ v F' H', Made K F H t v F' H' → Q v H') → r v [u] H Q
abbrev AttrForm (o : Expr) (name : Str) : Prop := ∀ env, attributeBase o name env (eval o env) = eval o env
theorem so_tm {f : D → D → Option T} {r : V → List V → Hp → VK → Prop} {id : String} {name : Str} {o : Expr} {mo me : M D} (slot : Slot "str" name id) (ty : typeOf (.builtin id) = pure (.type "method_descriptor")) (hr : ∀ X, OkX G C X → MtR X id r) (hv : VM G.K f r) (hs : ∀ d e t, f d e = some t → ∃ z, d = .str z)
    (ho : SE G C b o mo) (h : OP G C b e me) (hl : ∀ env, starEach [e] env = [(false, eval e env)]) (hf : AttrForm o name) (hline : (apos.endLine == pos.line) = true) : SO G C b (.Call (.Attribute o name apos) [e] [] pos) (mOp f (mTwo mo me)) := ⟨fun z => pu_bind (two_pu ho.pu h.pu z) fun c => pu_opt, fun X ok => by
  obtain ⟨t, pe, q⟩ := ho.go X ok
  obtain ⟨u, pu, qu⟩ := h.go X ok
  have hg := ok.g
  subst hg
  refine ⟨_, pe_m1 slot ty (hr X ok) pe pu (hl X.env) (hf X.env) hline, fun ρ W σ Γ Q rl w => ?_⟩
  refine q ρ W σ Γ _ rl (wp_mono (wp_bind.mp (wp_bind.mp w)) fun d Γ1 em w1 v W1 l1 r1 rp => ?_)
  have hd : ∃ z, d = .str z := by
    cases em2 : me Γ1 with
    | stuck => rw [M.bind_ap, em2] at w1; exact w1.elim
    | ok d2 Γ2 =>
      rw [M.bind_ap, em2] at w1
      cases z : f d d2 with
      | none => exact (show wp (opt (f d d2) Γ2) _ from w1) |> fun w1 => by rw [z] at w1; exact w1.elim
      | some t => exact hs _ _ _ z
  obtain ⟨z, rfl⟩ := hd
  refine ⟨⟨tx z, rp⟩, qu ρ W1 σ Γ1 _ r1 (wp_mono (wp_bind.mp w1) fun d2 Γ2 em2 w2 u W2 l2 r2 vu => ?_)⟩
  obtain ⟨t, e1, k⟩ := made_end (p := fun _ _ => True) (l1.tr l2) r2 w2
  exact hv W2.F W2.H _ _ _ _ t Q r2.sub (vw_of r2.sub (rep_sub l2.le.ext _ _ rp)) vu e1 k⟩
def dSw : D → D → Option T
  | .str s, .str z => some (.sh (.bl (z.isPrefixOf s)))
  | _, _ => none
theorem sw_eq (s z : Txt) : Txt.startswith (tx s) (tx z) = z.isPrefixOf s := by
  unfold Txt.startswith Builtin.Str.subAt
  rw [tx_len, tx_len, Nat.zero_add, Bool.eq_iff_iff]
  rw [List.isPrefixOf_iff_prefix, Bool.and_eq_true, decide_eq_true_iff, beq_iff_eq]
  have e : (tx s).cps.extract 0 z.length = (s.take z.length).toArray := by simp [tx]
  rw [e]
  constructor
  · rintro ⟨h1, h2⟩
    have : s.take z.length = z := by simpa [tx] using congrArg Array.toList h2
    rw [← this]; exact List.take_prefix _ _
  · rintro ⟨r, rfl⟩
    exact ⟨by simp, by simp [tx]⟩
theorem so_sw {o : Expr} {mo me : M D} (ho : SE G C b o mo) (h : OP G C b e me) (hl : ∀ env, starEach [e] env = [(false, eval e env)]) (hf : AttrForm o "startswith") (hline : (apos.endLine == pos.line) = true) : SO G C b (.Call (.Attribute o "startswith" apos) [e] [] pos) (mOp dSw (mTwo mo me)) :=
  so_tm F.slot_str_startswith F.type_str_startswith (fun X ok => mt_startswith) (fun F H dx dy v u t Q s hx hy e k => by
    unfold dSw at e
    split at e
    · cases e
      refine ⟨_, _, hx, by rw [show u = .str _ from hy], ?_⟩
      rw [sw_eq]
      exact k _ _ _ (.same rfl)
    · cases e) (fun d e t h => by unfold dSw at h; split at h <;> first | exact ⟨_, rfl⟩ | cases h) ho h hl hf hline
def joinT (s : Txt) (ss : List Txt) : Txt := (Txt.join (tx s) (ss.map tx)).cps.toList
def dJoin : D → D → Option T
  | .str s, d => (d.seq?.bind strs?).bind fun ss => if (ss.map (·.length)).sum + ss.length * s.length ≤ line then some (.sh (.str (joinT s ss))) else none
  | _, _ => none
theorem so_join {o : Expr} {mo me : M D} (ho : SE G C b o mo) (h : OP G C b e me) (hl : ∀ env, starEach [e] env = [(false, eval e env)]) (hf : AttrForm o "join") (hline : (apos.endLine == pos.line) = true) : SO G C b (.Call (.Attribute o "join" apos) [e] [] pos) (mOp dJoin (mTwo mo me)) :=
  so_tm (r := fun x xs H Q => ∃ a p, ∃ ys : List Str, x = .str a ∧ xs = [.ref p] ∧ (SqL G.K H p (ys.map V.str) ∨ SqT G.K H p (ys.map V.str)) ∧ (ys.map (·.length)).sum + ys.length * a.length ≤ 16777216 ∧ Q (.str (Txt.join a ys)) H)
    F.slot_str_join F.type_str_join (fun X ok => by obtain rfl := ok.g; exact mt_join) (fun F H dx dy v u t Q s hx hy e k => by
    unfold dJoin at e
    split at e
    · rename_i z d
      obtain ⟨ss, e1, e2⟩ := Option.bind_eq_some_iff.mp e
      obtain ⟨xs, e3, e4⟩ := Option.bind_eq_some_iff.mp e1
      split at e2
      · rename_i hl
        cases e2
        obtain ⟨p, vs, rfl, sq, r⟩ := seq_vw s hy e3
        have := strs_reps _ _ _ r e4
        subst this
        refine ⟨_, p, ss.map tx, hx, rfl, sq, ?_, ?_⟩
        · rw [List.map_map, List.length_map, tx_len]
          have : (List.length ∘ id : Txt → Nat) = List.length := rfl
          rw [show ((fun x : Str => x.length) ∘ tx) = (List.length : Txt → Nat) from funext tx_len]
          exact hl
        · exact k _ _ _ (.same (show V.str _ = V.str (tx (joinT _ _)) by unfold joinT; simp [tx]))
      · cases e2
    · cases e) (fun d e t h => by unfold dJoin at h; split at h <;> first | exact ⟨_, rfl⟩ | cases h) ho h hl hf hline
theorem join_cons (s t : Txt) : ∀ (ss : List Txt), joinT s (t :: ss) = match ss with
    | [] => t
    | _ => t ++ s ++ joinT s ss := by
  intro ss
  unfold joinT Txt.join
  rw [PySem.StrLaws.glued_eq_join, PySem.StrLaws.glued_eq_join]
  cases ss with
  | nil => simp [tx, Str.join]
  | cons u us =>
    show ((tx t ++ tx s ++ Str.join (tx s) ((u :: us).map tx)) : Str).cps.toList = _
    have e : ∀ a b : Str, (a ++ b).cps.toList = a.cps.toList ++ b.cps.toList := fun a b => by
      show (a.cps ++ b.cps).toList = _
      simp
    rw [e, e]
    simp [tx]
theorem joinT_nil (s : Txt) : joinT s [] = [] := by
  unfold joinT Txt.join
  rw [PySem.StrLaws.glued_eq_join]
  rfl
theorem joinT_empty : ∀ ss : List Txt, joinT [] ss = ss.flatten
  | [] => joinT_nil []
  | [t] => by rw [join_cons]; simp
  | t :: u :: us => by
    rw [join_cons]
    simp only [List.append_nil]
    rw [joinT_empty (u :: us)]
    simp
/-- text.index(sign) -/
def dSix : D → D → Option T
  | .str s, .str [c] => if c ∈ s then some (.sh (.int (s.idxOf c))) else none
  | _, _ => none
theorem idx_le : ∀ (s : Txt) (i : Nat) (h : i < s.length), s.idxOf s[i] ≤ i
  | x :: xs, 0, h => by simp
  | x :: xs, i + 1, h => by
    rw [List.idxOf_cons]
    have h' : i < xs.length := by simpa using h
    have := idx_le xs i h'
    rw [List.getElem_cons_succ]
    cases x == xs[i] with
    | true => exact Nat.zero_le _
    | false => exact Nat.succ_le_succ this
theorem occ_one {s : Txt} {c : Nat} (h : c ∈ s) : ∃ r, Builtin.Str.occurrences (tx s) (tx [c]) 0 (tx s).length 1 = s.idxOf c :: r := by
  have at_iff : ∀ i, PySem.StrLaws.At (tx s) (tx [c]) (tx s).length i ↔ s[i]? = some c := by
    intro i
    unfold PySem.StrLaws.At Builtin.Str.subAt
    rw [tx_len, tx_len, beq_iff_eq]
    have e : (tx s).cps.extract i (i + [c].length) = ((s.drop i).take 1).toArray := by
      simp [tx, List.extract_eq_take_drop]
    rw [e]
    show i + 1 ≤ s.length ∧ ((s.drop i).take 1).toArray = #[c] ↔ _
    constructor
    · rintro ⟨h1, h2⟩
      have h3 : (s.drop i).take 1 = [c] := by simpa using congrArg Array.toList h2
      have h4 : s.drop i = s[i] :: s.drop (i + 1) := List.drop_eq_getElem_cons (by omega)
      rw [h4, List.take_succ_cons, List.take_zero] at h3
      have h5 : s[i] = c := by simpa using h3
      rw [List.getElem?_eq_getElem (by omega), h5]
    · intro h1
      obtain ⟨h2, h3⟩ := List.getElem?_eq_some_iff.mp h1
      refine ⟨h2, ?_⟩
      have h4 : s.drop i = s[i] :: s.drop (i + 1) := List.drop_eq_getElem_cons h2
      rw [h4, h3]
      simp
  rcases PySem.StrLaws.occ_head (tx s) (tx [c]) 1 (Nat.le_refl _) with ⟨_, hn⟩ | ⟨i, r, e, ha, hb⟩
  · obtain ⟨i, hi⟩ := List.mem_iff_getElem?.mp h
    exact (hn i ((at_iff i).mpr hi)).elim
  · refine ⟨r, ?_⟩
    rw [e]
    have h1 := (at_iff i).mp ha
    have hlt : s.idxOf c < s.length := List.idxOf_lt_length_iff.mpr h
    have h2 : s[s.idxOf c]? = some c := by rw [List.getElem?_eq_getElem hlt]; simp
    obtain ⟨h3, h4⟩ := List.getElem?_eq_some_iff.mp h1
    rcases Nat.lt_trichotomy i (s.idxOf c) with q | q | q
    · have : s.idxOf c ≤ i := by
        rw [← h4]
        exact idx_le s i h3
      omega
    · rw [q]
    · exact (hb _ q ((at_iff _).mpr h2)).elim
theorem so_sidx {o : Expr} {mo me : M D} (ho : SE G C b o mo) (h : OP G C b e me) (hl : ∀ env, starEach [e] env = [(false, eval e env)]) (hf : AttrForm o "index") (hline : (apos.endLine == pos.line) = true) : SO G C b (.Call (.Attribute o "index" apos) [e] [] pos) (mOp dSix (mTwo mo me)) :=
  so_tm F.slot_str_index F.type_str_index (fun X ok => mt_sindex) (fun F H dx dy v u t Q s hx hy e k => by
    unfold dSix at e
    split at e
    · split at e
      · rename_i z c hc
        cases e
        obtain ⟨r, hr⟩ := occ_one hc
        exact ⟨_, _, _, r, hx, by rw [show u = .str _ from hy], hr, k _ _ _ (.same rfl)⟩
      · cases e
    · cases e) (fun d e t h => by unfold dSix at h; split at h <;> first | exact ⟨_, rfl⟩ | cases h) ho h hl hf hline
/-! #### split, reverse -/
def splitT (s z : Txt) : List Txt := (Txt.split (tx s) (tx z)).map fun y => y.cps.toList
def dSplit : D → D → Option T
  | .str s, .str z => if z ≠ [] ∧ s.length + 2 ≤ line then some (.fl ((splitT s z).map .str)) else none
  | _, _ => none
theorem so_split {o : Expr} {mo me : M D} (ho : SE G C b o mo) (h : OP G C b e me) (hl : ∀ env, starEach [e] env = [(false, eval e env)]) (hf : AttrForm o "split") (hline : (apos.endLine == pos.line) = true) : SO G C b (.Call (.Attribute o "split" apos) [e] [] pos) (mOp dSplit (mTwo mo me)) :=
  so_tm F.slot_str_split F.type_str_split (fun X ok => mt_split) (fun F H dx dy v u t Q s hx hy e k => by
    unfold dSplit at e
    split at e
    · split at e
      · rename_i z c hc
        cases e
        have hne : ((tx c).length == 0) = false := by
          rw [tx_len]
          cases c with
          | nil => exact (hc.1 rfl).elim
          | cons _ _ => rfl
        refine ⟨_, _, hx, by rw [show u = .str _ from hy], hne, by rw [tx_len]; exact line_le hc.2, fun p hp => k _ _ _ (.lst hp ?_)⟩
        have e2 : Txt.split (tx z) (tx c) = (splitT z c).map tx := by
          unfold splitT
          rw [List.map_map]
          conv => lhs; rw [← List.map_id (Txt.split (tx z) (tx c))]
          apply List.map_congr_left
          intro a _
          simp [tx]
        rw [e2]
        exact reps_strs _
      · cases e
    · cases e) (fun d e t h => by unfold dSplit at h; split at h <;> first | exact ⟨_, rfl⟩ | cases h) ho h hl hf hline
def dRev : D → Option T
  | .str s => if s.length ≤ line then some (.sh (.str s.reverse)) else none
  | _ => none
theorem so_rev {k : Nat} {p1 p2 p3 : Pos} {m : M D} (h : OP G C b e m) : SO G C b (.Subscript e (.Slice none none (some (.UnaryOp .USub (.Constant (.int 1) k p1) p2)) p3) pos) (mUn dRev m) := ⟨fun z => pu_bind (h.pu z) fun c => pu_opt, fun X ok => by
  obtain ⟨t, pe, q⟩ := h.go X ok
  refine ⟨_, pe_revS pe, fun ρ W σ Γ Q rl w => q ρ W σ Γ _ rl (wp_mono (wp_bind.mp w) fun d Γ1 _ w1 v W1 l1 r1 vx => ?_)⟩
  obtain ⟨t, e1, k⟩ := made_end (p := fun _ _ => True) l1 r1 w1
  unfold dRev at e1
  split at e1
  · rename_i s _
    split at e1
    · rename_i hl
      cases e1
      refine ⟨tx s, vx, by rw [tx_len]; exact line_le hl, ?_⟩
      have : (⟨(tx s).cps.toList.reverse.toArray⟩ : Str) = tx s.reverse := by simp [tx]
      rw [this]
      exact k _ _ _ (.same rfl)
    · cases e1
  · cases e1⟩
end
end PM
set_option Elab.async false
set_option linter.all false
set_option maxRecDepth 100000
set_option maxHeartbeats 2000000
set_option autoImplicit false
namespace PM
open PySem PySem.Spec PyProof.Rows L2
/-! ### places in an own thing -/
inductive Stp where
  | ix (n : Nat) | fd (c f : Str)
def putT (f : Str) (t : T) : List (Str × T) → List (Str × T)
  | [] => [(f, t)]
  | (g, x) :: r => if g = f then (g, t) :: r else (g, x) :: putT f t r
def T.step : T → Stp → Option T
  | .bx ts, .ix n => ts[n]?
  | .ob c' fs, .fd c f => if c' = c then fs.lookup f else none
  | _, _ => none
def T.at : T → List Stp → Option T
  | t, [] => some t
  | t, s :: π => (t.step s).bind (·.at π)
def T.put1 (t : T) (s : Stp) (r : T) : T := match t, s with
  | .bx ts, .ix n => .bx (ts.set n r)
  | .ob c fs, .fd _ f => .ob c (putT f r fs)
  | t, _ => t
def T.put : T → List Stp → T → T
  | _, [], r => r
  | t, s :: π, r => match t.step s with
    | some u => t.put1 s (u.put π r)
    | none => t
/-- the value there -/
def stepV (H : Hp) (v : V) (s : Stp) : Option V := match v, s with
  | .ref p, .ix n => (match H p with
    | some (.lst vs) => vs[n]?
    | _ => none)
  | .ref p, .fd _ f => (match H p with
    | some (.ins _ _ gs) => gs.lookup f
    | _ => none)
  | _, _ => none
def valAt (H : Hp) : V → List Stp → Option V
  | v, [] => some v
  | v, s :: π => (stepV H v s).bind (valAt H · π)
section
variable {K : PySem.W.Frag} {F H : Hp}
/-- a part of an own thing: what it is, and what becomes of the whole when it changes -/
structure Part (K : PySem.W.Frag) (F H : Hp) (A B : Addr → Prop) (tr : T) (w : V) (re : T → T) (v : V) : Prop where
  own : own K F H tr w B
  sub : ∀ a, B a → A a
  put : ∀ (F' H' : Hp) (tr' : T) (B' : Addr → Prop), Sub F F' → (∀ a o, A a → ¬ B a → H a = some o → H' a = some o) → PM.own K F' H' tr' w B' → (∀ a, B' a → B a ∨ ¬ A a) → PM.own K F' H' (re tr') v (fun a => (A a ∧ ¬ B a) ∨ B' a)
theorem owns_part : ∀ {ts : List T} {vs : List V} {A : Addr → Prop} {n : Nat} {tr : T}, owns K F H ts vs A → ts[n]? = some tr → ∃ w B, vs[n]? = some w ∧ own K F H tr w B ∧ (∀ a, B a → A a) ∧
    ∀ (F' H' : Hp) (tr' : T) (B' : Addr → Prop), Sub F F' → (∀ a o, A a → ¬ B a → H a = some o → H' a = some o) → own K F' H' tr' w B' → (∀ a, B' a → B a ∨ ¬ A a) → owns K F' H' (ts.set n tr') vs (fun a => (A a ∧ ¬ B a) ∨ B' a)
  | [], vs, A, n, tr, h, e => by simp at e
  | t :: ts, us, A, 0, tr, h, e => by
    obtain ⟨w, ws, B, rfl, o, m, r⟩ := h
    cases e
    refine ⟨w, B, rfl, o, m, fun F' H' tr' B' s k o' hB => ⟨w, ws, B', rfl, o', fun a q => .inr q, owns_sub s ts ws _ _ (fun a q => ⟨.inl q, fun z => ?_⟩) (fun a u q => k a u q.1 q.2) r⟩⟩
    rcases hB a z with y | y
    · exact q.2 y
    · exact y q.1
  | t :: ts, us, A, n + 1, tr, h, e => by
    obtain ⟨w0, ws, B0, rfl, o, m, r⟩ := h
    obtain ⟨w, B, e1, o1, m1, put⟩ := owns_part (n := n) r (by simpa using e)
    refine ⟨w, B, by simpa using e1, o1, fun a q => (m1 a q).1, fun F' H' tr' B' s k o' hB => ?_⟩
    have h1 := put F' H' tr' B' s (fun a u q nb => k a u q.1 nb) o' (fun a q => (hB a q).imp id fun z y => z y.1)
    have h0 := own_sub (F' := F') (H' := H') s t w0 B0 B0 (fun _ q => q) (fun a u q => k a u (m a q) fun z => (m1 a z).2 q) o
    refine ⟨w0, ws, B0, rfl, h0, fun a q => .inl ⟨m a q, fun z => (m1 a z).2 q⟩, owns_sub Sub.rfl' _ ws _ _ (fun a q => ?_) (fun _ _ _ q => q) h1⟩
    rcases q with ⟨⟨q1, q2⟩, q3⟩ | q
    · exact ⟨.inl ⟨q1, q3⟩, q2⟩
    · refine ⟨.inr q, fun z => ?_⟩
      rcases hB a q with y | y
      · exact (m1 a y).2 z
      · exact y (m a z)
theorem ownf_part : ∀ {ts : List (Str × T)} {vs : List (Str × V)} {A : Addr → Prop} {f : Str} {tr : T}, ownf K F H ts vs A → ts.lookup f = some tr → ∃ w B, vs.lookup f = some w ∧ own K F H tr w B ∧ (∀ a, B a → A a) ∧
    ∀ (F' H' : Hp) (tr' : T) (B' : Addr → Prop), Sub F F' → (∀ a o, A a → ¬ B a → H a = some o → H' a = some o) → own K F' H' tr' w B' → (∀ a, B' a → B a ∨ ¬ A a) → ownf K F' H' (putT f tr' ts) vs (fun a => (A a ∧ ¬ B a) ∨ B' a)
  | [], vs, A, f, tr, h, e => by simp at e
  | (g, t) :: ts, us, A, f, tr, h, e => by
    obtain ⟨w0, ws, B0, rfl, o, m, r⟩ := h
    by_cases hg : g = f
    · subst hg
      rw [List.lookup_cons_self] at e
      cases e
      refine ⟨w0, B0, List.lookup_cons_self, o, m, fun F' H' tr' B' s k o' hB => ?_⟩
      unfold putT
      rw [if_pos rfl]
      refine ⟨w0, ws, B', rfl, o', fun a q => .inr q, ownf_sub s ts ws _ _ (fun a q => ⟨.inl q, fun z => ?_⟩) (fun a u q => k a u q.1 q.2) r⟩
      rcases hB a z with y | y
      · exact q.2 y
      · exact y q.1
    · have hb : (f == g) = false := beq_eq_false_iff_ne.mpr (Ne.symm hg)
      rw [List.lookup_cons, hb] at e
      obtain ⟨w, B, e1, o1, m1, put⟩ := ownf_part r e
      refine ⟨w, B, by rw [List.lookup_cons, hb]; exact e1, o1, fun a q => (m1 a q).1, fun F' H' tr' B' s k o' hB => ?_⟩
      have h1 := put F' H' tr' B' s (fun a u q nb => k a u q.1 nb) o' (fun a q => (hB a q).imp id fun z y => z y.1)
      have h0 := own_sub (F' := F') (H' := H') s t w0 B0 B0 (fun _ q => q) (fun a u q => k a u (m a q) fun z => (m1 a z).2 q) o
      unfold putT
      rw [if_neg hg]
      refine ⟨w0, ws, B0, rfl, h0, fun a q => .inl ⟨m a q, fun z => (m1 a z).2 q⟩, ownf_sub Sub.rfl' _ ws _ _ (fun a q => ?_) (fun _ _ _ q => q) h1⟩
      rcases q with ⟨⟨q1, q2⟩, q3⟩ | q
      · exact ⟨.inl ⟨q1, q3⟩, q2⟩
      · refine ⟨.inr q, fun z => ?_⟩
        rcases hB a q with y | y
        · exact (m1 a y).2 z
        · exact y (m a z)
/-- one step down -/
theorem part_step {t : T} {v : V} {A : Addr → Prop} {s : Stp} {tr : T} (h : own K F H t v A) (e : t.step s = some tr) : ∃ w B, stepV H v s = some w ∧ Part K F H A B tr w (t.put1 s) v := by
  cases t with
  | bx ts =>
    cases s with
    | fd _ f => cases e
    | ix n =>
      obtain ⟨p, vs, rfl, ap, a, r⟩ := h
      obtain ⟨w, B, e1, o, m, put⟩ := owns_part r (show ts[n]? = some tr from e)
      refine ⟨w, B, by simp only [stepV]; rw [a]; exact e1, o, fun a q => (m a q).1, fun F' H' tr' B' s k o' hB => ?_⟩
      have hp : ¬ B p := fun z => (m p z).2 rfl
      refine ⟨p, vs, rfl, .inl ⟨ap, hp⟩, k p _ ap hp a, owns_sub Sub.rfl' _ vs _ _ (fun a q => ?_) (fun _ _ _ q => q) (put F' H' tr' B' s (fun a u q nb => k a u q.1 nb) o' (fun a q => (hB a q).imp id fun z y => z y.1))⟩
      rcases q with ⟨⟨q1, q2⟩, q3⟩ | q
      · exact ⟨.inl ⟨q1, q3⟩, q2⟩
      · refine ⟨.inr q, fun z => ?_⟩
        subst z
        rcases hB _ q with y | y
        · exact hp y
        · exact y ap
  | ob c fs =>
    cases s with
    | ix n => cases e
    | fd c2 f =>
      obtain ⟨p, dx, gs, rfl, ap, a, r⟩ := h
      have e : (if c = c2 then fs.lookup f else none) = some tr := e
      split at e
      case isFalse => cases e
      obtain ⟨w, B, e1, o, m, put⟩ := ownf_part r e
      refine ⟨w, B, by simp only [stepV]; rw [a]; exact e1, o, fun a q => (m a q).1, fun F' H' tr' B' s k o' hB => ?_⟩
      have hp : ¬ B p := fun z => (m p z).2 rfl
      refine ⟨p, dx, gs, rfl, .inl ⟨ap, hp⟩, k p _ ap hp a, ownf_sub Sub.rfl' _ gs _ _ (fun a q => ?_) (fun _ _ _ q => q) (put F' H' tr' B' s (fun a u q nb => k a u q.1 nb) o' (fun a q => (hB a q).imp id fun z y => z y.1))⟩
      rcases q with ⟨⟨q1, q2⟩, q3⟩ | q
      · exact ⟨.inl ⟨q1, q3⟩, q2⟩
      · refine ⟨.inr q, fun z => ?_⟩
        subst z
        rcases hB _ q with y | y
        · exact hp y
        · exact y ap
  | _ => cases s <;> cases e
theorem part_at : ∀ (π : List Stp) {t : T} {v : V} {A : Addr → Prop} {tr : T}, own K F H t v A → t.at π = some tr → ∃ w B, valAt H v π = some w ∧ Part K F H A B tr w (t.put π) v
  | [], t, v, A, tr, h, e => by
    cases e
    exact ⟨v, A, rfl, h, fun _ q => q, fun F' H' tr' B' s k o' hB => own_sub Sub.rfl' tr' v B' _ (fun a q => .inr q) (fun _ _ _ q => q) o'⟩
  | s :: π, t, v, A, tr, h, e => by
    obtain ⟨u, e1, e2⟩ := Option.bind_eq_some_iff.mp (show (t.step s).bind (·.at π) = some tr from e)
    obtain ⟨w1, B1, g1, P1⟩ := part_step h e1
    obtain ⟨w, B, g2, P2⟩ := part_at π P1.own e2
    refine ⟨w, B, by simp only [valAt]; rw [g1]; exact g2, P2.own, fun a q => P1.sub a (P2.sub a q), fun F' H' tr' B' sf k o' hB => ?_⟩
    have h2 := P2.put F' H' tr' B' sf (fun a o q nb => k a o (P1.sub a q) nb) o' (fun a q => (hB a q).imp id fun z y => z (P1.sub a y))
    have h1 := P1.put F' H' _ _ sf (fun a o q nb => k a o q fun z => nb (P2.sub a z)) h2 (fun a q => by
      rcases q with ⟨q, _⟩ | q
      · exact .inl q
      · exact (hB a q).imp (P2.sub a) id)
    have e3 : t.put (s :: π) tr' = t.put1 s (u.put π tr') := by simp only [T.put]; rw [e1]
    rw [e3]
    refine own_sub Sub.rfl' _ v _ _ (fun a q => ?_) (fun _ _ _ q => q) h1
    rcases q with ⟨q1, q2⟩ | ⟨q1, q2⟩ | q
    · exact .inl ⟨q1, fun z => q2 (P2.sub a z)⟩
    · exact .inl ⟨P1.sub a q1, q2⟩
    · exact .inr q
end
/-- an own thing's root is written anew -/
theorem Rl.write {K : PySem.W.Frag} {io : List Nat} {ρ : List (Nat × V)} {W : Wd} {σ : L2.St} {Γ : Sl} {i : Nat} {t0 tr tr' : T} {π : List Stp} {p : Addr} {o : HO} (r : Rl K io ρ W σ Γ) (hi : Γ[i]? = some (some t0)) (ht : t0.at π = some tr)
    (hw : ∀ v, σ[i]? = some (some v) → valAt W.H v π = some (.ref p)) (root : ∀ B, own K W.F W.H tr (.ref p) B → B p ∧ own K W.F (upd W.H p o) tr' (.ref p) B) :
    Rl K io ρ ⟨W.F, upd W.H p o, W.A⟩ σ (Γ.set i (some (t0.put π tr'))) ∧ Le W ⟨W.F, upd W.H p o, W.A⟩ := by
  obtain ⟨v, e1, ow⟩ := r.slot i t0 hi
  obtain ⟨w, B, g, P⟩ := part_at π ow ht
  rw [hw v e1] at g; cases g
  obtain ⟨bp, o2⟩ := root B P.own
  have ap := P.sub p bp
  have hF : W.F p = none := r.nof i p ap
  have ne : ∀ {j a}, j ≠ i → W.A j a → a ≠ p := fun {j a} n h z => by subst z; exact r.dis j i a n h ap
  have hlt : i < Γ.length := (List.getElem?_eq_some_iff.mp hi).1
  refine ⟨⟨fun a u e => ?_, by rw [List.length_set]; exact r.len, fun j t e => ?_, r.dis, r.nof, fun j a h => ?_, r.fix⟩, ⟨Sub.rfl', fun a u n h => ?_, fun j a h => .inl ⟨j, h⟩, fun a u h => .inl h⟩⟩
  · show upd W.H p o a = some u
    rw [upd_ne (ne_of_none e hF)]
    exact r.sub a u e
  · by_cases q : j = i
    · subst q
      rw [List.getElem?_set_self hlt] at e
      cases e
      refine ⟨v, e1, own_sub Sub.rfl' _ v _ _ (fun a q => ?_) (fun _ _ _ q => q) (P.put W.F (upd W.H p o) tr' B Sub.rfl' (fun a u h nb hu => by rw [upd_ne (fun z => nb (by rw [z]; exact bp))]; exact hu) o2 (fun a q => .inl q))⟩
      rcases q with q | q
      · exact q.1
      · exact P.sub a q
    · rw [List.getElem?_set_ne (Ne.symm q)] at e
      obtain ⟨u, e2, o3⟩ := r.slot j t e
      exact ⟨u, e2, own_sub Sub.rfl' t u _ _ (fun _ q => q) (fun a x h hx => by show upd W.H p o a = some x; rw [upd_ne (ne q h)]; exact hx) o3⟩
  · obtain ⟨u, hu⟩ := r.alc j a h
    by_cases q : a = p
    · exact ⟨o, by rw [q]; exact upd_same⟩
    · exact ⟨u, by show upd W.H p o a = some u; rw [upd_ne q]; exact hu⟩
  · show upd W.H p o a = some u
    rw [upd_ne (fun z => n i (by rw [z]; exact ap))]
    exact h
end PM
set_option Elab.async false
set_option linter.all false
set_option maxRecDepth 100000
set_option maxHeartbeats 2000000
set_option autoImplicit false
namespace PM
open PySem PySem.Spec PyProof.Rows L2
/-- the same, the root takes in an own thing N -/
theorem Rl.writeF {K : PySem.W.Frag} {io : List Nat} {ρ : List (Nat × V)} {W0 W : Wd} {σ : L2.St} {Γ : Sl} {i : Nat} {t0 tr tr' t : T} {y : V} {N : Addr → Prop} {π : List Stp} {p : Addr} {o : HO} (r : Rl K io ρ W σ Γ) (l0 : Le W0 W) (f : Fre K false W0 W t y N) (hi : Γ[i]? = some (some t0)) (ht : t0.at π = some tr)
    (hw : ∀ v, σ[i]? = some (some v) → valAt W.H v π = some (.ref p)) (root : ∀ B, own K W.F W.H tr (.ref p) B → (∀ a, B a → N a → False) → B p ∧ own K W.F (upd W.H p o) tr' (.ref p) (fun a => B a ∨ N a)) :
    Rl K io ρ ⟨W.F, upd W.H p o, fun j a => W.A j a ∨ (j = i ∧ N a)⟩ σ (Γ.set i (some (t0.put π tr'))) ∧ Le W0 ⟨W.F, upd W.H p o, fun j a => W.A j a ∨ (j = i ∧ N a)⟩ := by
  obtain ⟨v, e1, ow⟩ := r.slot i t0 hi
  obtain ⟨w, B, g, P⟩ := part_at π ow ht
  rw [hw v e1] at g; cases g
  obtain ⟨bp, o2⟩ := root B P.own fun a q => f.dis i a (P.sub a q)
  have ap := P.sub p bp
  have hF : W.F p = none := r.nof i p ap
  have ne : ∀ {j a}, j ≠ i → W.A j a → a ≠ p := fun {j a} n h z => by subst z; exact r.dis j i a n h ap
  have hlt : i < Γ.length := (List.getElem?_eq_some_iff.mp hi).1
  refine ⟨⟨fun a u e => ?_, by rw [List.length_set]; exact r.len, fun j t e => ?_, fun j k a n x y => ?_, fun j a x => ?_, fun j a h => ?_, r.fix⟩, ⟨l0.ext, fun a u n h => ?_, fun j a h => ?_, fun a u h => l0.nw a u h⟩⟩
  · show upd W.H p o a = some u
    rw [upd_ne (ne_of_none e hF)]
    exact r.sub a u e
  · by_cases q : j = i
    · subst q
      rw [List.getElem?_set_self hlt] at e
      cases e
      refine ⟨v, e1, own_sub Sub.rfl' _ v _ _ (fun a q => ?_) (fun _ _ _ q => q) (P.put W.F (upd W.H p o) tr' _ Sub.rfl' (fun a u h nb hu => by rw [upd_ne (fun z => nb (by rw [z]; exact bp))]; exact hu) o2 (fun a q => q.imp id fun q z => f.dis j a z q))⟩
      rcases q with q | q | q
      · exact .inl q.1
      · exact .inl (P.sub a q)
      · exact .inr ⟨rfl, q⟩
    · rw [List.getElem?_set_ne (Ne.symm q)] at e
      obtain ⟨u, e2, o3⟩ := r.slot j t e
      exact ⟨u, e2, own_sub Sub.rfl' t u _ _ (fun _ q => .inl q) (fun a x h hx => by show upd W.H p o a = some x; rw [upd_ne (ne q h)]; exact hx) o3⟩
  · rcases x with x | ⟨rfl, x⟩
    · rcases y with y | ⟨rfl, y⟩
      · exact r.dis j k a n x y
      · exact f.dis j a x y
    · rcases y with y | ⟨rfl, y⟩
      · exact f.dis k a y x
      · exact n rfl
  · rcases x with x | ⟨rfl, x⟩
    · exact r.nof j a x
    · exact f.nof a x
  · have hu : ∃ u, W.H a = some u := by
      rcases h with h | ⟨rfl, h⟩
      · exact r.alc j a h
      · exact f.alc a h
    obtain ⟨u, hu⟩ := hu
    by_cases q : a = p
    · exact ⟨o, by rw [q]; exact upd_same⟩
    · exact ⟨u, by show upd W.H p o a = some u; rw [upd_ne q]; exact hu⟩
  · show upd W.H p o a = some u
    have hz : a ≠ p := fun z => by
      subst z
      rcases l0.ft i a ap with ⟨j, q⟩ | q
      · exact n j q
      · rw [h] at q; cases q
    rw [upd_ne hz]
    exact l0.fr a u n h
  · rcases h with h | ⟨rfl, h⟩
    · exact l0.ft j a h
    · exact f.ft a h
/-! ### places as expressions -/
def look (i : Nat) (π : List Stp) (Γ : Sl) : Option T := match Γ[i]? with
  | some (some t) => t.at π
  | _ => none
def putS (i : Nat) (π : List Stp) (r : T) (Γ : Sl) : Sl := match Γ[i]? with
  | some (some t) => Γ.set i (some (t.put π r))
  | _ => Γ
theorem look_some {i : Nat} {π : List Stp} {Γ : Sl} {tr : T} (h : look i π Γ = some tr) : ∃ t0, Γ[i]? = some (some t0) ∧ t0.at π = some tr := by
  unfold look at h
  split at h
  · exact ⟨_, ‹_›, h⟩
  · cases h
theorem putS_of {i : Nat} {π : List Stp} {Γ : Sl} {r t0 : T} (h : Γ[i]? = some (some t0)) : putS i π r Γ = Γ.set i (some (t0.put π r)) := by
  unfold putS; rw [h]
section
variable {G : Gb} {C : Ct} {b : Bool} {a e o : Expr} {es : List Expr} {pos pos' p apos : Pos} {x f : Str} {i : Nat} {π : List Stp}
structure SPl (G : Gb) (C : Ct) (e : Expr) (i : Nat) (π : List Stp) : Prop where
  go : ∀ X, OkX G C X → ∃ t, PE X e t ∧ ∀ ρ W σ Γ (Q : VK) tr, Rl G.K C.io ρ W σ Γ → look i π Γ = some tr → (∀ w v, σ[i]? = some (some v) → valAt W.H v π = some w → (∃ B, own G.K W.F W.H tr w B ∧ ∀ a, B a → W.A i a) → Q w W.H) → t σ W.H Q
theorem look_own {K : PySem.W.Frag} {io : List Nat} {ρ : List (Nat × V)} {W : Wd} {σ : L2.St} {Γ : Sl} {tr : T} (r : Rl K io ρ W σ Γ) (h : look i π Γ = some tr) : ∃ v w B, σ[i]? = some (some v) ∧ valAt W.H v π = some w ∧ own K W.F W.H tr w B ∧ ∀ a, B a → W.A i a := by
  obtain ⟨t0, h1, h2⟩ := look_some h
  obtain ⟨v, e1, ow⟩ := r.slot i t0 h1
  obtain ⟨w, B, g, P⟩ := part_at π ow h2
  exact ⟨v, w, B, e1, g, P.own, P.sub⟩
theorem spl_var (i : Nat) (hN : C.N[i]? = some x) (hv : Vis C.sc x) (hd : (x == ("__debug__" : Str)) = false) (hcd : (x == ("__classdict__" : Str)) = false) : SPl G C (.Name x pos) i [] := ⟨fun X ok => ⟨tVar i, ok_pv ok hN hv hd hcd, fun ρ W σ Γ Q tr rl h k => by
  obtain ⟨v, w, B, e1, g, ow, sb⟩ := look_own rl h
  cases g
  exact ⟨v, e1, k v v e1 rfl ⟨B, ow, sb⟩⟩⟩⟩
theorem at_app {s : Stp} : ∀ {π : List Stp} {t : T}, t.at (π ++ [s]) = (t.at π).bind (·.step s)
  | [], t => by
    show (t.step s).bind (fun u => some u) = t.step s
    cases t.step s <;> rfl
  | r :: π, t => by
    show (t.step r).bind (·.at (π ++ [s])) = ((t.step r).bind (·.at π)).bind (·.step s)
    cases t.step r with
    | none => rfl
    | some u => exact at_app (π := π)
theorem val_app {H : Hp} {s : Stp} : ∀ {π : List Stp} {v : V}, valAt H v (π ++ [s]) = (valAt H v π).bind (stepV H · s)
  | [], v => by
    show (stepV H v s).bind (fun u => some u) = stepV H v s
    cases stepV H v s <;> rfl
  | r :: π, v => by
    show (stepV H v r).bind (valAt H · (π ++ [s])) = ((stepV H v r).bind (valAt H · π)).bind (stepV H · s)
    cases stepV H v r with
    | none => rfl
    | some u => exact val_app (π := π)
theorem look_app {s : Stp} {Γ : Sl} {tr : T} (h : look i (π ++ [s]) Γ = some tr) : ∃ t1, look i π Γ = some t1 ∧ t1.step s = some tr := by
  obtain ⟨t0, h1, h2⟩ := look_some h
  rw [at_app] at h2
  obtain ⟨t1, h3, h4⟩ := Option.bind_eq_some_iff.mp h2
  exact ⟨t1, by unfold look; rw [h1]; exact h3, h4⟩
theorem spl_ix {n k : Nat} {p2 : Pos} (h : SPl G C e i π) (hs : PlainIx (.Constant (.int (n : Int)) k p2)) : SPl G C (.Subscript e (.Constant (.int (n : Int)) k p2) pos) i (π ++ [.ix n]) := ⟨fun X ok => by
  obtain ⟨t, pe, q⟩ := h.go X ok
  have hg := ok.g
  subst hg
  refine ⟨_, pe_ix ix_seq pe pe_int hs, fun ρ W σ Γ Q tr rl hl kk => ?_⟩
  obtain ⟨t1, h1, h2⟩ := look_app hl
  refine q ρ W σ Γ _ t1 rl h1 fun w v ev g ⟨B, ow, sb⟩ => ?_
  obtain ⟨w2, B2, g2, P⟩ := part_step ow h2
  cases t1 with
  | bx ts =>
    obtain ⟨p, vs, rfl, ap, aH, r⟩ := ow
    have g3 : vs[n]? = some w2 := by simp only [stepV] at g2; rw [aH] at g2; exact g2
    have hlt : n < vs.length := (List.getElem?_eq_some_iff.mp g3).1
    refine .inl ⟨p, vs, _, w2, rfl, rfl, .inl (.inl aH), ?_, ?_⟩
    · unfold atI ixN
      rw [if_pos (by omega), if_pos (by omega)]
      simpa using g3
    · exact kk w2 v ev (by rw [val_app, g]; exact g2) ⟨B2, P.own, fun a q => sb a (P.sub a q)⟩
  | _ => cases h2⟩
theorem spl_fd {c : Str} (h : SPl G C e i π) (hc : Cls G.K (He.ga G.K c)) (hna : NoAttr G.K (He.ga G.K c) f) (hf : AttrForm e f) : SPl G C (.Attribute e f pos) i (π ++ [.fd c f]) := ⟨fun X ok => by
  obtain ⟨t, pe, q⟩ := h.go X ok
  have hg := ok.g
  subst hg
  refine ⟨_, pe_fld pe (hf X.env), fun ρ W σ Γ Q tr rl hl kk => ?_⟩
  obtain ⟨t1, h1, h2⟩ := look_app hl
  refine q ρ W σ Γ _ t1 rl h1 fun w v ev g ⟨B, ow, sb⟩ => ?_
  obtain ⟨w2, B2, g2, P⟩ := part_step ow h2
  cases t1 with
  | ob c2 fs =>
    obtain ⟨p, dx, gs, rfl, ap, aH, r⟩ := ow
    have h2 : (if c2 = c then fs.lookup f else none) = some tr := h2
    split at h2
    · rename_i hcc
      subst hcc
      have g3 : gs.lookup f = some w2 := by simp only [stepV] at g2; rw [aH] at g2; exact g2
      exact ⟨p, _, dx, gs, w2, rfl, aH, hc, hna, g3, kk w2 v ev (by rw [val_app, g]; exact g2) ⟨B2, P.own, fun a q => sb a (P.sub a q)⟩⟩
    · cases h2
  | _ => cases h2⟩
/-! ### read there -/
def mAt (i : Nat) (π : List Stp) : M D := fun Γ => match look i π Γ with
  | some (.sh d) => .ok d Γ
  | _ => .stuck
theorem se_at (h : SPl G C e i π) : SE G C b e (mAt i π) := by
  refine ⟨fun _ Γ d Γ' e => ?_, fun X ok => ?_⟩
  · unfold mAt at e; split at e <;> cases e; rfl
  · obtain ⟨t, pe, q⟩ := h.go X ok
    refine ⟨t, pe, fun ρ W σ Γ Q rl w => ?_⟩
    unfold mAt at w
    split at w
    · rename_i d hl
      exact q ρ W σ Γ Q _ rl hl fun w' v _ _ ⟨B, ow, _⟩ => w w' W (Lw.refl b W) rl ow
    · exact w.elim
def mVwAt (i : Nat) (π : List Stp) : M D := fun Γ => match look i π Γ with
  | some t => opt t.v? Γ
  | _ => .stuck
theorem op_at (h : SPl G C e i π) : OP G C b e (mVwAt i π) := by
  refine ⟨fun _ Γ d Γ' e => ?_, fun X ok => ?_⟩
  · unfold mVwAt at e
    split at e
    · exact pu_opt _ _ _ e
    · cases e
  · obtain ⟨t, pe, q⟩ := h.go X ok
    refine ⟨t, pe, fun ρ W σ Γ Q rl w => ?_⟩
    unfold mVwAt at w
    split at w
    · rename_i tr hl
      refine q ρ W σ Γ Q _ rl hl fun w' v _ _ ⟨B, ow, _⟩ => ?_
      cases z : tr.v? with
      | none => rw [z] at w; exact w.elim
      | some d => rw [z] at w; exact w w' W (Lw.refl b W) rl (own_vw rl.sub ow z)
    · exact w.elim
/-! ### lists that change -/
def VMut (K : PySem.W.Frag) (f : List D → List D → Option (List D × D)) (r : V → List V → Hp → VK → Prop) : Prop :=
  ∀ (F H : Hp) (p : Addr) (ds ds' args : List D) (vs us : List V) (d : D) (Q : VK), Sub F H → H p = some (.lst vs) → reps K F ds vs → reps K F args us → f ds args = some (ds', d) → (∀ vs' v, reps K F ds' vs' → rep K F d v → Q v (upd H p (.lst vs'))) → r (.ref p) us H Q
def mMut (i : Nat) (π : List Stp) (f : List D → List D → Option (List D × D)) (ma : M (List D)) : M T := fun Γ => match look i π Γ with
  | some (.fl _) => (ma Γ).bind fun args Γ1 => (match look i π Γ1 with
    | some (.fl ds) => (match f ds args with
      | some (ds', d) => .ok (.sh d) (putS i π (.fl ds') Γ1)
      | none => .stuck)
    | _ => .stuck)
  | _ => .stuck
theorem so_mut {f : List D → List D → Option (List D × D)} {r : V → List V → Hp → VK → Prop} {id : String} {name : Str} {ma : M (List D)} (slot : Slot "list" name id) (ty : typeOf (.builtin id) = pure (.type "method_descriptor")) (hr : ∀ X, OkX G C X → MtR X id r) (hv : VMut G.K f r)
    (h : SPl G C o i π) (ha : SA G C b (e :: es) ma) (hb : b = true ∨ π = []) (hf : AttrForm o name) (hp : Pln e) (hfew : ∀ env, ((backTo pos (starEach (e :: es) env)).all (fun x => !x.1) && (backToKw pos (keywordEach [] env)).all (fun x => x.1.isSome)
      && decide ((e :: es).length + ([] : List Keyword).length + (if ([] : List Keyword).isEmpty then 0 else 1) < 30)) = true) (hline : (apos.endLine == pos.line) = true) (hpl : ∀ env, (backTo pos (starEach es env)).any (·.1) = false) :
    SO G C false (.Call (.Attribute o name apos) (e :: es) [] pos) (mMut i π f ma) := ⟨fun z => (by cases z), fun X ok => by
  obtain ⟨t, pe, q⟩ := h.go X ok
  obtain ⟨u, pu, qu⟩ := ha.go X ok
  have hg := ok.g
  subst hg
  refine ⟨_, pe_bm PySem.F.plainAttrs_list slot ty (hr X ok) pe pu (hf X.env) (hfew X.env) hline (hp X.env es) (hpl X.env), fun ρ W σ Γ Q rl w => ?_⟩
  unfold mMut at w
  split at w
  · rename_i ds0 hl0
    refine q ρ W σ Γ _ _ rl hl0 fun w0 v0 ev g ⟨B0, ow0, _⟩ => ?_
    obtain ⟨p0, vs0, rfl, _, hp0, _⟩ := ow0
    refine ⟨.inl ⟨rfl, vs0, .inl (.inl hp0)⟩, qu ρ W σ Γ _ rl (wp_mono (wp_bind.mp w) fun args Γ1 em w1 us W1 l1 r1 rs => ?_)⟩
    split at w1
    · rename_i ds hl
      split at w1
      · rename_i ds' d hfe
        obtain ⟨t0, h1, h2⟩ := look_some hl
        obtain ⟨v, w2, B, e1, g2, ow, sb⟩ := look_own r1 hl
        have ew : w2 = .ref p0 := by
          rw [ev] at e1; cases e1
          rcases hb with hb | hb
          · subst hb
            have l1' : Le0 W W1 := l1
            obtain rfl := ha.pu rfl _ _ _ em
            have same : ∀ (π : List Stp) (v : V), valAt W.H v π = some (.ref p0) → valAt W1.H v π = some (.ref p0) := by
              intro π
              induction π with
              | nil => exact fun v h => h
              | cons s π ih =>
                intro v h
                obtain ⟨u, h3, h4⟩ := Option.bind_eq_some_iff.mp (show (stepV W.H v s).bind (valAt W.H · π) = _ from h)
                show (stepV W1.H v s).bind (valAt W1.H · π) = _
                have h5 : stepV W1.H v s = some u := by
                  unfold stepV at h3 ⊢
                  split at h3
                  · split at h3
                    · rename_i heq; rw [l1'.fr _ _ heq]; exact h3
                    · cases h3
                  · split at h3
                    · rename_i heq; rw [l1'.fr _ _ heq]; exact h3
                    · cases h3
                  · cases h3
                rw [h5]; exact ih u h4
            have := same π _ g
            rw [g2] at this; exact Option.some.inj this
          · subst hb
            cases g; cases g2; rfl
        subst ew
        obtain ⟨p1, vs, ep, bp, hpv, rr⟩ := ow
        cases ep
        refine hv W1.F W1.H p0 ds ds' args vs us d Q r1.sub hpv rr rs hfe fun vs' v' rs' rv => ?_
        obtain ⟨r2, l2⟩ := r1.write (o := .lst vs') (tr' := .fl ds') h1 h2 (fun v2 e2 => by rw [e1] at e2; cases e2; exact g2) (fun B' ow' => by
          obtain ⟨p2, vs2, ep2, bp2, _, _⟩ := ow'
          cases ep2
          exact ⟨bp2, p0, vs', rfl, bp2, upd_same, rs'⟩)
        rw [putS_of h1] at w1
        exact w1 v' _ _ (Le.tr l1.le l2) r2 (fre_sh rv)
      · exact w1.elim
    · exact w1.elim
  · exact w.elim⟩
def fApp : List D → List D → Option (List D × D)
  | ds, [d] => if ds.length < line then some (ds ++ [d], .non) else none
  | _, _ => none
theorem so_append {ma : M (List D)} (h : SPl G C o i π) (ha : SA G C b [e] ma) (hb : b = true ∨ π = []) (hf : AttrForm o "append") (hp : Pln e) (hline : (apos.endLine == pos.line) = true)
    (hfew : ∀ env, ((backTo pos (starEach [e] env)).all (fun x => !x.1) && (backToKw pos (keywordEach [] env)).all (fun x => x.1.isSome) && decide ([e].length + ([] : List Keyword).length + (if ([] : List Keyword).isEmpty then 0 else 1) < 30)) = true) :
    SO G C false (.Call (.Attribute o "append" apos) [e] [] pos) (mMut i π fApp ma) :=
  so_mut PySem.F.slot_list_append PySem.F.type_list_append (fun X ok => mt_append) (fun F H p ds ds' args vs us d Q s hp r ra e k => by
    unfold fApp at e
    split at e
    · split at e
      · rename_i hl
        cases e
        obtain ⟨u, us', rfl, ru, e2⟩ := ra
        obtain rfl : us' = [] := e2
        exact ⟨p, vs, u, rfl, rfl, hp, by rw [← reps_len r]; exact Nat.lt_of_lt_of_le hl (Nat.le_of_eq sizeLine_eq.symm), k _ _ (reps_app r (reps_cons ru reps_nil)) rfl⟩
      · cases e
    · cases e) h ha hb hf hp hfew hline fun _ => rfl
def fPop : List D → List D → Option (List D × D)
  | ds, [.int k] => if k.natAbs < 9223372036854775808 then (seqIndex? k ds.length).bind fun j => (ds[j]?).map fun d => (ds.eraseIdx j, d) else none
  | _, _ => none
theorem so_pop {ma : M (List D)} (h : SPl G C o i π) (ha : SA G C b [e] ma) (hb : b = true ∨ π = []) (hf : AttrForm o "pop") (hp : Pln e) (hline : (apos.endLine == pos.line) = true)
    (hfew : ∀ env, ((backTo pos (starEach [e] env)).all (fun x => !x.1) && (backToKw pos (keywordEach [] env)).all (fun x => x.1.isSome) && decide ([e].length + ([] : List Keyword).length + (if ([] : List Keyword).isEmpty then 0 else 1) < 30)) = true) :
    SO G C false (.Call (.Attribute o "pop" apos) [e] [] pos) (mMut i π fPop ma) :=
  so_mut PySem.F.slot_list_pop PySem.F.type_list_pop (fun X ok => mt_popAt) (fun F H p ds ds' args vs us d Q s hp r ra e k => by
    unfold fPop at e
    split at e
    · split at e
      · rename_i j hl
        obtain ⟨n, e1, e2⟩ := Option.bind_eq_some_iff.mp e
        obtain ⟨d2, e3, e4⟩ := Option.map_eq_some_iff.mp e2
        cases e4
        obtain ⟨u, us', rfl, ru, e5⟩ := ra
        obtain rfl : us' = [] := e5
        obtain rfl : u = .int j := ru
        obtain ⟨v, e6, rv⟩ := reps_get r e3
        exact ⟨p, vs, j, n, v, rfl, rfl, hp, by omega, by omega, by rw [← reps_len r]; exact e1, e6, k _ _ (reps_erase n r) rv⟩
      · cases e
    · cases e) h ha hb hf hp hfew hline fun _ => rfl
def fIns : List D → List D → Option (List D × D)
  | ds, [.int k, d] => if ds.length < line ∧ 0 ≤ k ∧ k.natAbs < 9223372036854775808 then some (ds.take k.toNat ++ [d] ++ ds.drop k.toNat, .non) else none
  | _, _ => none
theorem so_insert {e2 : Expr} {ma : M (List D)} (h : SPl G C o i π) (ha : SA G C b [e, e2] ma) (hb : b = true ∨ π = []) (hf : AttrForm o "insert") (hp : Pln e) (hline : (apos.endLine == pos.line) = true)
    (hfew : ∀ env, ((backTo pos (starEach [e, e2] env)).all (fun x => !x.1) && (backToKw pos (keywordEach [] env)).all (fun x => x.1.isSome) && decide ([e, e2].length + ([] : List Keyword).length + (if ([] : List Keyword).isEmpty then 0 else 1) < 30)) = true) (hpl : ∀ env, (backTo pos (starEach [e2] env)).any (·.1) = false) :
    SO G C false (.Call (.Attribute o "insert" apos) [e, e2] [] pos) (mMut i π fIns ma) :=
  so_mut PySem.F.slot_list_insert PySem.F.type_list_insert (fun X ok => mt_insert) (fun F H p ds ds' args vs us d Q s hp r ra e k => by
    unfold fIns at e
    split at e
    · rename_i j dd
      split at e
      · rename_i hl
        cases e
        obtain ⟨u, u2, rfl, ru, ru2⟩ := reps2 ra
        obtain rfl : u = .int j := ru
        exact ⟨p, vs, j, u2, rfl, rfl, hp, by rw [← reps_len r]; exact Nat.lt_of_lt_of_le hl.1 (Nat.le_of_eq sizeLine_eq.symm), hl.2.1, by have := hl.2.2; omega, k _ _ (reps_app (reps_app (reps_take _ r) (reps_cons ru2 reps_nil)) (reps_drop _ r)) rfl⟩
      · cases e
    · cases e) h ha hb hf hp hfew hline hpl
def fExt : List D → List D → Option (List D × D)
  | ds, [.lst es] => if ds.length + es.length ≤ line then some (ds ++ es, .non) else none
  | _, _ => none
theorem so_extend {ma : M (List D)} (h : SPl G C o i π) (ha : SA G C b [e] ma) (hb : b = true ∨ π = []) (hf : AttrForm o "extend") (hp : Pln e) (hline : (apos.endLine == pos.line) = true)
    (hfew : ∀ env, ((backTo pos (starEach [e] env)).all (fun x => !x.1) && (backToKw pos (keywordEach [] env)).all (fun x => x.1.isSome) && decide ([e].length + ([] : List Keyword).length + (if ([] : List Keyword).isEmpty then 0 else 1) < 30)) = true) :
    SO G C false (.Call (.Attribute o "extend" apos) [e] [] pos) (mMut i π fExt ma) :=
  so_mut PySem.F.slot_list_extend PySem.F.type_list_extend (fun X ok => mt_extend) (fun F H p ds ds' args vs us d Q s hp r ra e k => by
    unfold fExt at e
    split at e
    · split at e
      · rename_i es hl
        cases e
        obtain ⟨u, us', rfl, ⟨p2, vs2, rfl, a2, r2⟩, e2⟩ := ra
        obtain rfl : us' = [] := e2
        exact ⟨p, p2, vs, vs2, rfl, rfl, hp, s _ _ a2, by rw [← reps_len r, ← reps_len r2]; exact line_le hl, k _ _ (reps_app r r2) rfl⟩
      · cases e
    · cases e) h ha hb hf hp hfew hline fun _ => rfl
/-! ### stores -/
def sizeT : T → Option Nat
  | .fl ds => some ds.length
  | .bx ts => some ts.length
  | _ => none
def setAt (t : T) (j : Nat) (d : D) : T := match t with
  | .fl ds => .fl (ds.set j d)
  | .bx ts => .bx (ts.set j (.sh d))
  | t => t
theorem owns_set {K : PySem.W.Frag} {F H : Hp} {d : D} {v : V} (rp : rep K F d v) : ∀ {ts : List T} {vs : List V} {A : Addr → Prop} (j : Nat), owns K F H ts vs A → owns K F H (ts.set j (.sh d)) (vs.set j v) A
  | [], vs, A, j, h => by rw [show vs = [] from h]; simp [owns]
  | t :: ts, us, A, 0, h => by
    obtain ⟨w, ws, B, rfl, o, m, r⟩ := h
    exact ⟨v, ws, fun _ => False, rfl, rp, fun _ z => z.elim, owns_sub Sub.rfl' ts ws _ _ (fun a q => ⟨q.1, fun z => z⟩) (fun _ _ _ q => q) r⟩
  | t :: ts, us, A, j + 1, h => by
    obtain ⟨w, ws, B, rfl, o, m, r⟩ := h
    exact ⟨w, ws.set j v, B, rfl, o, m, owns_set rp j r⟩
theorem own_setAt {K : PySem.W.Frag} {F H : Hp} {tr : T} {w : V} {B : Addr → Prop} {n : Nat} (h : own K F H tr w B) (hn : sizeT tr = some n) : ∃ p vs, w = .ref p ∧ B p ∧ H p = some (.lst vs) ∧ vs.length = n ∧ ∀ (j : Nat) (d : D) (v : V), rep K F d v → own K F (upd H p (.lst (vs.set j v))) (setAt tr j d) (.ref p) B := by
  cases tr with
  | fl ds =>
    cases hn
    obtain ⟨p, vs, rfl, bp, hp, r⟩ := h
    exact ⟨p, vs, rfl, bp, hp, (reps_len r).symm, fun j d v rp => ⟨p, _, rfl, bp, upd_same, reps_set j r rp⟩⟩
  | bx ts =>
    cases hn
    obtain ⟨p, vs, rfl, bp, hp, r⟩ := h
    exact ⟨p, vs, rfl, bp, hp, (owns_len r).symm, fun j d v rp => ⟨p, _, rfl, bp, upd_same, owns_set rp j (owns_sub Sub.rfl' ts vs _ _ (fun _ q => q) (fun a o q h => by rw [upd_ne q.2]; exact h) r)⟩⟩
  | _ => cases hn
theorem own_up {K : PySem.W.Frag} {W W' : Wd} (l : Le0 W W') {tr : T} {w : V} {B : Addr → Prop} (h : own K W.F W.H tr w B) : own K W'.F W'.H tr w B := own_sub l.ext tr w B B (fun _ q => q) (fun a o _ q => l.fr a o q) h
def mSetIx (i : Nat) (π : List Stp) (me mi : M D) : M Out := me.bind fun d => mi.bind fun k Γ => match k, look i π Γ with
  | .int k, some tr => (match (sizeT tr).bind fun n => ixN n k with
    | some j => .ok .nx (putS i π (setAt tr j d) Γ)
    | none => .stuck)
  | _, _ => .stuck
@[simp] theorem mSetIx_ap (i : Nat) (π : List Stp) (me mi : M D) (Γ : Sl) : mSetIx i π me mi Γ = (me Γ).bind (fun d Γ1 => (mi Γ1).bind (fun k Γ2 => (match k, look i π Γ2 with
  | .int k, some tr => (match (sizeT tr).bind fun n => ixN n k with
    | some j => R.ok Out.nx (putS i π (setAt tr j d) Γ2)
    | none => .stuck)
  | _, _ => .stuck))) := rfl
theorem st_setIx {ix : Expr} {me mi : M D} (hv : SE G C false e me) (h : SPl G C o i π) (hi : SE G C true ix mi) (hs : ∀ env, swapsWithSole [.Subscript o ix pos'] e pos.line env = pure false) (hw : ∀ env, swappedStores [.Subscript o ix pos'] e env = pure none) (h1 : ∀ env, (assignEach [.Subscript o ix pos'] env).map (·.2) = [assign (.Subscript o ix pos') env])
    (ha : ∀ env v, assign (.Subscript o ix pos') env v = (do
      let ov ← holding [v] (eval o env)
      let iv ← holding [v, ov] (eval ix env)
      standAt pos'
      holding [v, ov, iv] (setItem ov iv v)
      release [v, ov, iv] [])) : SS G C (.Assign [.Subscript o ix pos'] e pos) (mSetIx i π me mi) := ⟨fun X ok => by
  obtain ⟨t, pe, q⟩ := hv.go X ok
  obtain ⟨tp, pp, qp⟩ := h.go X ok
  obtain ⟨ti, pi, qi⟩ := hi.go X ok
  refine ⟨_, ps_asg pe (pg_sub pp pi set_list (ha X.env)) (hs X.env) (hw X.env) (h1 X.env), fun ρ W σ Γ E rl w => ?_⟩
  refine q ρ W σ Γ _ rl (wp_mono (wp_bind.mp w) fun d Γ1 em w1 v W1 l1 r1 rp => ?_)
  obtain ⟨k, Γ2, ek, wk⟩ := wp_ok (wp_bind.mp w1)
  obtain rfl := hi.pu rfl _ _ _ ek
  split at wk
  · rename_i kk tr hl
    split at wk
    · rename_i j hj
      obtain ⟨n, hn, hj⟩ := Option.bind_eq_some_iff.mp hj
      refine qp ρ W1 σ _ _ _ r1 hl fun w0 v0 ev g ⟨B0, ow0, _⟩ => ?_
      refine qi ρ W1 σ _ _ r1 ?_
      rw [ek]
      intro kv W2 l2 r2 rk
      have l2' : Le0 W1 W2 := l2
      obtain ⟨t0, h1, h2⟩ := look_some hl
      obtain ⟨p0, vs0, rfl, b0, hp2, hlen, _⟩ := own_setAt (own_up l2' ow0) hn
      have same : ∀ (π : List Stp) (v : V), valAt W1.H v π = some (.ref p0) → valAt W2.H v π = some (.ref p0) := by
        intro π
        induction π with
        | nil => exact fun v h => h
        | cons s π ih =>
          intro v h
          obtain ⟨u, h3, h4⟩ := Option.bind_eq_some_iff.mp (show (stepV W1.H v s).bind (valAt W1.H · π) = _ from h)
          show (stepV W2.H v s).bind (valAt W2.H · π) = _
          have h5 : stepV W2.H v s = some u := by
            unfold stepV at h3 ⊢
            split at h3
            · split at h3
              · rename_i heq; rw [l2'.fr _ _ heq]; exact h3
              · cases h3
            · split at h3
              · rename_i heq; rw [l2'.fr _ _ heq]; exact h3
              · cases h3
            · cases h3
          rw [h5]; exact ih u h4
      refine ⟨p0, vs0, kk, j, rfl, rk, hp2, by rw [hlen]; exact hj, ?_⟩
      obtain ⟨r3, l3⟩ := r2.write (o := .lst (vs0.set j v)) (tr' := setAt tr j d) h1 h2 (fun v3 e3 => by rw [ev] at e3; cases e3; exact same π _ g) (fun B' ow' => by
        obtain ⟨p2, vs2, ep2, bp2, hp3, _, key⟩ := own_setAt ow' hn
        cases ep2
        rw [hp2] at hp3; cases hp3
        exact ⟨bp2, key j d v (rep_sub l2'.ext _ _ rp)⟩)
      rw [putS_of h1] at wk
      exact wk σ _ (Le.tr l1 (l2'.le.tr l3)) r3
    · exact wk.elim
  · exact wk.elim⟩
theorem ownf_put {K : PySem.W.Frag} {F H : Hp} {t : T} {y : V} {N : Addr → Prop} (ht : own K F H t y N) : ∀ {fs : List (Str × T)} {gs : List (Str × V)} {A : Addr → Prop}, ownf K F H fs gs A → (∀ a, A a → N a → False) → ownf K F H (putT f t fs) (putF f y gs) (fun a => A a ∨ N a)
  | [], gs, A, h, d => by
    rw [show gs = [] from h]
    exact ⟨y, [], N, rfl, ht, fun a q => .inr q, rfl⟩
  | (g, x) :: fs, gs, A, h, d => by
    obtain ⟨w, ws, B, rfl, o, m, r⟩ := h
    unfold putT putF
    by_cases hg : g = f
    · rw [if_pos hg, if_pos hg]
      exact ⟨y, ws, N, by rw [hg], ht, fun a q => .inr q, ownf_sub Sub.rfl' _ _ _ _ (fun a q => ⟨.inl q.1, fun z => d a q.1 z⟩) (fun _ _ _ q => q) r⟩
    · rw [if_neg hg, if_neg hg]
      refine ⟨w, _, B, rfl, o, fun a q => .inl (m a q), ownf_sub Sub.rfl' _ _ _ _ (fun a q => ?_) (fun _ _ _ q => q) (ownf_put ht r fun a q z => d a q.1 z)⟩
      rcases q with q | q
      · exact ⟨.inl q.1, q.2⟩
      · exact ⟨.inr q, fun z => d a (m a z) q⟩
def mFldS (i : Nat) (π : List Stp) (c f : Str) (me : M T) : M Out := me.bind fun t Γ => match look i π Γ with
  | some (.ob c' fs) => if c' = c ∧ fs.length < 1000 then .ok .nx (putS i π (.ob c' (putT f t fs)) Γ) else .stuck
  | _ => .stuck
@[simp] theorem mFldS_ap (i : Nat) (π : List Stp) (c f : Str) (me : M T) (Γ : Sl) : mFldS i π c f me Γ = (me Γ).bind (fun t Γ1 => (match look i π Γ1 with
  | some (.ob c' fs) => if c' = c ∧ fs.length < 1000 then R.ok Out.nx (putS i π (.ob c' (putT f t fs)) Γ1) else .stuck
  | _ => .stuck)) := rfl
theorem ownf_len {K : PySem.W.Frag} {F H : Hp} : ∀ {ts : List (Str × T)} {vs : List (Str × V)} {A : Addr → Prop}, ownf K F H ts vs A → ts.length = vs.length
  | [], vs, A, h => by rw [show vs = [] from h]; rfl
  | (f, t) :: ts, vs, A, h => by
    obtain ⟨w, ws, B, e, _, _, r⟩ := h
    rw [e, List.length_cons, List.length_cons, ownf_len r]
theorem st_fld {c : Str} {me : M T} (hv : SO G C false e me) (h : SPl G C o i π) (hc : Cls G.K (He.ga G.K c)) (hna : NoAttr G.K (He.ga G.K c) f) (hs : ∀ env, swapsWith e (some (.Attribute o f pos')) pos.line env = pure false) : SS G C (.Assign [.Attribute o f pos'] e pos) (mFldS i π c f me) := ⟨fun X ok => by
  obtain ⟨t, pe, q⟩ := hv.go X ok
  obtain ⟨tp, pp, qp⟩ := h.go X ok
  have hg := ok.g
  subst hg
  refine ⟨_, ps_fld pp pe (hs X.env), fun ρ W σ Γ E rl w => ?_⟩
  refine q ρ W σ Γ _ rl (wp_mono (wp_bind.mp w) fun t Γ1 em w1 y W1 B l1 r1 fr => ?_)
  split at w1
  · rename_i c' fs hl
    split at w1
    · rename_i hh
      obtain ⟨rfl, hlen⟩ := hh
      refine qp ρ W1 σ Γ1 _ _ r1 hl fun w0 v0 ev g ⟨B0, ow0, _⟩ => ?_
      obtain ⟨t0, h1, h2⟩ := look_some hl
      obtain ⟨p0, dx, gs, rfl, b0, hp0, rr0⟩ := ow0
      refine ⟨p0, _, dx, gs, rfl, hp0, hc, hna, by rw [← ownf_len rr0]; exact hlen, ?_⟩
      obtain ⟨r3, l3⟩ := r1.writeF (o := .ins (He.ga X.K c') dx (putF f y gs)) (tr' := .ob c' (putT f t fs)) l1 fr h1 h2 (fun v3 e3 => by rw [ev] at e3; cases e3; exact g) (fun B' ow' dj => by
        obtain ⟨p2, dx2, gs2, ep2, bp2, hp2, rr2⟩ := ow'
        cases ep2
        rw [hp0] at hp2; cases hp2
        have nN : ∀ a, B a → a ≠ p0 := fun a q z => dj p0 bp2 (by rw [← z]; exact q)
        have key := ownf_put (f := f) (H := upd W1.H p0 (.ins (He.ga X.K c') dx (putF f y gs))) (own_sub Sub.rfl' t y B B (fun _ q => q) (fun a o q h => by rw [upd_ne (nN a q)]; exact h) fr.own) (ownf_sub Sub.rfl' fs gs _ (fun a => B' a ∧ a ≠ p0) (fun _ q => q) (fun a o q h => by rw [upd_ne q.2]; exact h) rr2) (fun a q z => dj a q.1 z)
        refine ⟨bp2, p0, dx, _, rfl, .inl bp2, upd_same, ownf_sub Sub.rfl' _ _ _ _ (fun a q => ?_) (fun _ _ _ q => q) key⟩
        rcases q with q | q
        · exact ⟨.inl q.1, q.2⟩
        · exact ⟨.inr q, nN a q⟩)
      rw [putS_of h1] at w1
      exact w1 σ _ l3 r3
    · exact w1.elim
  · exact w1.elim⟩
end
end PM
set_option Elab.async false
set_option linter.all false
set_option maxRecDepth 100000
set_option maxHeartbeats 2000000
set_option autoImplicit false
namespace PM
open PySem PySem.Spec PyProof.Rows L2
def wipeS (vs : List Nat) (Γ : Sl) : Sl := match vs with
  | [] => Γ
  | v :: vs => (wipeS vs Γ).set v none
theorem wipeS_len : ∀ (vs : List Nat) (Γ : Sl), (wipeS vs Γ).length = Γ.length
  | [], _ => rfl
  | v :: vs, Γ => (List.length_set ..).trans (wipeS_len vs Γ)
theorem wipeS_some {Γ : Sl} {i : Nat} {t : T} : ∀ {vs : List Nat}, (wipeS vs Γ)[i]? = some (some t) → Γ[i]? = some (some t) ∧ i ∉ vs
  | [], h => ⟨h, by simp⟩
  | v :: vs, h => by
    unfold wipeS at h
    by_cases hi : v = i
    · subst hi
      by_cases hv : v < (wipeS vs Γ).length
      · rw [List.getElem?_set_self hv] at h; cases h
      · rw [List.getElem?_eq_none (by simpa using hv)] at h; cases h
    · rw [List.getElem?_set_ne hi] at h
      obtain ⟨h1, h2⟩ := wipeS_some h
      exact ⟨h1, by simp only [List.mem_cons, not_or]; exact ⟨fun e => hi e.symm, h2⟩⟩
section
variable {K : PySem.W.Frag} {io : List Nat} {ρ : List (Nat × V)} {W : Wd} {σ : L2.St} {Γ : Sl} {vs : List Nat}
theorem Rl.unwipe (r : Rl K io ρ W (wipe σ vs) Γ) : Rl K io ρ W σ Γ :=
  ⟨r.sub, r.len.trans (wipe_length σ vs), fun i t e => by
    obtain ⟨v, e1, o⟩ := r.slot i t e
    exact ⟨v, (wipe_some e1).1, o⟩, r.dis, r.nof, r.alc, fun p hp => ⟨(r.fix p hp).1, (wipe_some (r.fix p hp).2).1⟩⟩
theorem Rl.wipe (r : Rl K io ρ W σ Γ) (hio : ∀ i ∈ io, i ∉ vs) : Rl K io ρ W (L2.wipe σ vs) (wipeS vs Γ) :=
  ⟨r.sub, by rw [wipeS_len, wipe_length]; exact r.len, fun i t e => by
    obtain ⟨e1, nv⟩ := wipeS_some e
    obtain ⟨v, e2, o⟩ := r.slot i t e1
    exact ⟨v, by rw [wipe_out nv]; exact e2, o⟩, r.dis, r.nof, r.alc, fun p hp => ⟨(r.fix p hp).1, by rw [wipe_out (hio _ (r.fix p hp).1)]; exact (r.fix p hp).2⟩⟩
theorem wipe_in {i : Nat} : ∀ {vs : List Nat} {σ : L2.St}, i ∈ vs → i < σ.length → (L2.wipe σ vs)[i]? = some none
  | v :: vs, σ, h, hl => by
    unfold L2.wipe
    by_cases q : v = i
    · subst q; exact List.getElem?_set_self (by rw [wipe_length]; exact hl)
    · rw [List.getElem?_set_ne q]
      exact wipe_in ((List.mem_cons.mp h).resolve_left fun e => q e.symm) hl
theorem wipe_eq {σ2 : L2.St} (hl : σ2.length = σ.length) (h : ∀ j, j ∉ vs → σ2[j]? = σ[j]?) : L2.wipe σ2 vs = L2.wipe σ vs := by
  apply List.ext_getElem?
  intro j
  by_cases q : j ∈ vs
  · by_cases q2 : j < σ.length
    · rw [wipe_in q (by rw [hl]; exact q2), wipe_in q q2]
    · rw [List.getElem?_eq_none (by rw [wipe_length]; omega), List.getElem?_eq_none (by rw [wipe_length]; omega)]
  · rw [wipe_out q, wipe_out q, h j q]
end
section
variable {G : Gb} {C : Ct} {tg iter elt : Expr} {ifs : List Expr} {scope : Scope} {own : List (Str × Nat)} {pos spos py : Pos} {y : Str}
def blkCt (C : Ct) (scope : Scope) : Ct := { C with sc := relS scope C.sc, fn := fun x => scope.names.lookup x == some .cell }
theorem ok_blk {X : Cx} (ok : OkX G C X) (s : Shared) (H : Hp) (c : Addr) (cl : List (Str × Addr)) (fp : List Addr) : OkX G (blkCt C scope) (X.blk s H scope (compEnvC scope cl c X.env) fp) :=
  ⟨ok.g, ok.eN, ok.nd, by show relS scope X.env.scope = relS scope C.sc; rw [ok.es], ok.calm, ok.room, ok.gd, rfl, rfl⟩
/-- the tests of a clause -/
structure SBs (G : Gb) (C : Ct) (ifs : List Expr) (m : M Bool) : Prop where
  go : ∀ X, OkX G C X → ∃ t, PTs X ifs t ∧ ∀ ρ W σ Γ Q, Rl G.K C.io ρ W σ Γ → wp (m Γ) (fun d Γ' => ∀ W', Le W W' → Rl G.K C.io ρ W' σ Γ' → Q d W'.H) → t σ W.H Q
theorem sbs_nil : SBs G C [] (M.pure true) := ⟨fun X ok => ⟨_, pts_nil, fun ρ W σ Γ Q rl w => w W (Le.refl W) rl⟩⟩
theorem sbs_one {e : Expr} {m : M Bool} (h : SB G C false e m) : SBs G C [e] m := ⟨fun X ok => by
  obtain ⟨t, pt, q⟩ := h.go X ok
  exact ⟨t, pts_one pt, fun ρ W σ Γ Q rl w => q ρ W σ Γ Q rl w⟩⟩
def lcM (vs : List Nat) (tg : D → Sl → Option Sl) (mt : M Bool) (me : M D) : List D → Sl → R (List D)
  | [], Γ => .ok [] (wipeS vs Γ)
  | d :: ds, Γ => match tg d (wipeS vs Γ) with
    | none => .stuck
    | some Γ1 => (mt Γ1).bind fun c Γ2 => if c = true then (me Γ2).bind fun y Γ3 => (lcM vs tg mt me ds Γ3).bind fun ys Γ4 => .ok (y :: ys) Γ4 else lcM vs tg mt me ds Γ2
theorem lcM_nil (vs : List Nat) (tg : D → Sl → Option Sl) (mt : M Bool) (me : M D) (Γ : Sl) : lcM vs tg mt me [] Γ = .ok [] (wipeS vs Γ) := rfl
theorem lcM_cons (vs : List Nat) (tg : D → Sl → Option Sl) (mt : M Bool) (me : M D) (d : D) (ds : List D) (Γ : Sl) : lcM vs tg mt me (d :: ds) Γ = match tg d (wipeS vs Γ) with
    | none => .stuck
    | some Γ1 => (mt Γ1).bind fun c Γ2 => if c = true then (me Γ2).bind fun y Γ3 => (lcM vs tg mt me ds Γ3).bind fun ys Γ4 => .ok (y :: ys) Γ4 else lcM vs tg mt me ds Γ2 := rfl
def mLc (vs : List Nat) (mi : M (List D)) (tg : D → Sl → Option Sl) (mt : M Bool) (me : M D) : M T := mi.bind fun ds Γ => (lcM vs tg mt me ds Γ).bind fun ys Γ' => opt (if ys.length ≤ line then some (T.fl ys) else none) Γ'
@[simp] theorem mLc_ap (vs : List Nat) (mi : M (List D)) (tg : D → Sl → Option Sl) (mt : M Bool) (me : M D) (Γ : Sl) : mLc vs mi tg mt me Γ = (mi Γ).bind fun ds Γ1 => (lcM vs tg mt me ds Γ1).bind fun ys Γ' => opt (if ys.length ≤ line then some (T.fl ys) else none) Γ' := rfl
/-- what the parts of a comprehension must be -/
structure LcP (G : Gb) (C : Ct) (tg iter elt : Expr) (ifs : List Expr) (scope : Scope) (own : List (Str × Nat)) (mi : M (List D)) (mg : D → Sl → Option Sl) (mt : M Bool) (me : M D) : Prop where
  ex : ∃ is, SI G C false tg iter mi ∧ ST G (blkCt C scope) tg is mg ∧ SBs G (blkCt C scope) ifs mt ∧ SE G (blkCt C scope) false elt me ∧ ∀ i ∈ is, i ∈ own.map (·.2)
  blk : BlkOk C.N C.sc scope own
  io : ∀ i ∈ C.io, i ∉ own.map (·.2)
/-- the loop of a comprehension: acc stands in D -/
structure LcI (K : PySem.W.Frag) (io : List Nat) (ρ : List (Nat × V)) (W0 : Wd) (D : Addr) (σ : L2.St) (W : Wd) (Γ : Sl) (acc : List PM.D) : Prop where
  le : Le W0 W
  rl : Rl K io ρ W σ Γ
  nA : ∀ i, ¬ W.A i D
  nF : W.F D = none
  at_ : ∃ vs, W.H D = some (.lst vs) ∧ reps K W.F acc vs
theorem LcI.next {K : PySem.W.Frag} {io : List Nat} {ρ : List (Nat × V)} {W0 W W1 : Wd} {D : Addr} {σ σ1 : L2.St} {Γ Γ1 : Sl} {acc : List PM.D} (h : LcI K io ρ W0 D σ W Γ acc) (l : Le W W1) (r : Rl K io ρ W1 σ1 Γ1) : LcI K io ρ W0 D σ1 W1 Γ1 acc := by
  obtain ⟨vs, e, rp⟩ := h.at_
  refine ⟨h.le.tr l, r, fun i q => ?_, ?_, vs, l.fr _ _ h.nA e, reps_sub l.ext _ _ rp⟩
  · rcases l.ft i D q with ⟨j, z⟩ | z
    · exact h.nA j z
    · rw [e] at z; cases z
  · cases z : W1.F D with
    | none => rfl
    | some o =>
      rcases l.nw D o z with q | ⟨j, q⟩ | q
      · rw [h.nF] at q; cases q
      · exact (h.nA j q).elim
      · rw [e] at q; cases q
theorem wp_optif {c : Prop} [Decidable c] {t : T} {Γ : Sl} {P : T → Sl → Prop} : wp (opt (if c then some t else none) Γ) P ↔ c ∧ P t Γ := by
  by_cases h : c
  · rw [if_pos h]; exact ⟨fun q => ⟨h, q⟩, fun q => q.2⟩
  · rw [if_neg h]; exact ⟨fun q => q.elim, fun q => h q.1⟩
theorem lc_run {wi : TI} {g : TG} {tt : TT} {te : TE} {mi : M (List D)} {mg : D → Sl → Option Sl} {mt : M Bool} {me : M D} {is vs : List Nat} {C' : Ct} {ρ : List (Nat × V)} {W : Wd} {σ : L2.St} {Γ : Sl} {Q : VK} (hC : C'.io = C.io)
    (qi : ∀ ρ W σ Γ R, Rl G.K C.io ρ W σ Γ → wp (mi Γ) (fun ds Γ' => ∀ J W', Le W W' → Rl G.K C.io ρ W' σ Γ' → Yl G.K W'.F J ds → R J W'.H) → wi σ W.H R)
    (qg : ∀ ρ W σ Γ v d Γ' Q, Rl G.K C.io ρ W σ Γ → rep G.K W.F d v → mg d Γ = some Γ' → (∀ σ' W', Le W W' → W'.F = W.F → W'.H = W.H → (∀ j, j ∉ is → σ'[j]? = σ[j]?) → σ'.length = σ.length → Rl G.K C.io ρ W' σ' Γ' → Q σ' W'.H) → g v σ W.H Q)
    (qt : ∀ ρ W σ Γ Q, Rl G.K C.io ρ W σ Γ → wp (mt Γ) (fun d Γ' => ∀ W', Le W W' → Rl G.K C.io ρ W' σ Γ' → Q d W'.H) → tt σ W.H Q)
    (qe : ∀ ρ W σ Γ Q, Rl G.K C.io ρ W σ Γ → wp (me Γ) (fun d Γ' => ∀ v W', Le W W' → Rl G.K C.io ρ W' σ Γ' → rep G.K W'.F d v → Q v W'.H) → te σ W.H Q)
    (his : ∀ i ∈ is, i ∈ vs) (hio : ∀ i ∈ C.io, i ∉ vs) (rl : Rl G.K C.io ρ W σ Γ) (w : wp (mLc vs mi mg mt me Γ) (fun t Γ' => ∀ v W' B, Le W W' → Rl G.K C.io ρ W' σ Γ' → Fre G.K false W W' t v B → Q v W'.H)) : tLc wi g tt te vs σ W.H Q := by
  refine qi ρ W σ Γ _ rl (wp_mono (wp_bind.mp w) fun ds Γ1 _ w1 J W1 l1 r1 yl => ?_)
  intro D hD
  have hDF : W1.F D = none := none_of_sub r1.sub hD
  let Wd0 : Wd := ⟨W1.F, upd W1.H D (.lst []), W1.A⟩
  have l0 : Le0 W1 Wd0 := ⟨Sub.rfl', Sub.new hD, rfl, fun _ _ e => .inl e⟩
  have r0 : Rl G.K C.io ρ Wd0 σ Γ1 := r1.more l0 (sub_upd r1.sub hD)
  -- the end
  have fin : ∀ (Wx : Wd) (Γx : Sl) (acc : List PM.D), LcI G.K C.io ρ W1 D (L2.wipe σ vs) Wx Γx acc → acc.length ≤ line → (∀ v W' B, Le W W' → Rl G.K C.io ρ W' σ Γx → Fre G.K false W W' (.fl acc) v B → Q v W'.H) → Q (.ref D) Wx.H := by
    intro Wx Γx acc h hl k
    obtain ⟨us, e, rp⟩ := h.at_
    refine k (.ref D) Wx (fun a => a = D) (Le.tr l1 h.le) h.rl.unwipe ⟨⟨D, us, rfl, rfl, e, rp⟩, fun i a q z => ?_, fun a z => ?_, fun a z => ?_, fun a z => ?_, fun z => by cases z⟩
    · subst z; exact h.nA i q
    · subst z; exact h.nF
    · subst z; exact ⟨_, e⟩
    · subst z; exact Le.back l1 hD
  -- the words' turn
  let Post : List PM.D → List PM.D → Sl → Prop := fun acc ys Γ' => (acc ++ ys).length ≤ line ∧ ∀ v W' B, Le W W' → Rl G.K C.io ρ W' σ Γ' → Fre G.K false W W' (.fl (acc ++ ys)) v B → Q v W'.H
  have w2 : wp (lcM vs mg mt me ds Γ1) (Post []) := wp_mono (wp_bind.mp w1) fun ys Γ' _ z => wp_optif.mp z
  refine ⟨fun i m H => m = ds.length - i ∧ i ≤ ds.length ∧ ∃ Wx Γx acc, Wx.H = H ∧ LcI G.K C.io ρ W1 D (L2.wipe σ vs) Wx (wipeS vs Γx) acc ∧ wp (lcM vs mg mt me (ds.drop i) Γx) (Post acc), ⟨ds.length, by simp, Nat.zero_le _, Wd0, Γ1, [], rfl, ⟨l0.le, r0.wipe hio, fun i z => ?_, hDF, [], upd_same, rfl⟩, w2⟩, ?_⟩
  · obtain ⟨o, ho⟩ := r1.alc i D z
    rw [hD] at ho; cases ho
  rintro i m H2 ⟨rfl, hi, Wx, Γx, acc, rfl, hx, wx⟩
  by_cases hlt : i < ds.length
  · rw [List.drop_eq_getElem_cons hlt, lcM_cons] at wx
    cases e1 : mg ds[i] (wipeS vs Γx) with
    | none => rw [e1] at wx; exact wx.elim
    | some Γ3 =>
      rw [e1] at wx
      have ext0 : Sub W1.F Wx.F := hx.le.ext
      refine .inr ⟨yl.go i Wx.F Wx.H ext0 hx.rl.sub hlt, fun H' => ∃ Wy Γy acc', Wy.H = H' ∧ LcI G.K C.io ρ W1 D (L2.wipe σ vs) Wy (wipeS vs Γy) acc' ∧ wp (lcM vs mg mt me (ds.drop (i + 1)) Γy) (Post acc'),
        fun H' ⟨Wy, Γy, acc', h1, h2, h4⟩ => ⟨ds.length - (i + 1), by omega, rfl, hlt, Wy, Γy, acc', h1, h2, h4⟩, fun x H' yy => ?_⟩
      obtain ⟨F', md⟩ := yl.yld i Wx.F Wx.H _ x H' ext0 hx.rl.sub (List.getElem?_eq_getElem hlt) yy
      obtain ⟨l3, r3, B, fr⟩ := made_ok hx.rl md
      refine qg ρ ⟨F', H', Wx.A⟩ _ (wipeS vs Γx) x ds[i] Γ3 _ r3 fr.own e1 fun σ4 W4 l4 hF hH hg hn r4 => ?_
      have hwe : L2.wipe σ4 vs = L2.wipe σ vs := wipe_eq (by rw [hn, wipe_length]) fun j hj => by rw [hg j fun z => hj (his j z), wipe_out hj]
      refine ⟨hwe, qt ρ W4 σ4 Γ3 _ r4 (wp_mono (wp_bind.mp wx) fun c Γ5 _ w5 W5 l5 r5 => ?_)⟩
      have h5 := (hx.next (l3.le.tr l4) r4).next l5 r5
      have turn : ∀ {Wy : Wd} {Γy : Sl} {acc' : List PM.D}, LcI G.K C.io ρ W1 D σ4 Wy Γy acc' → LcI G.K C.io ρ W1 D (L2.wipe σ vs) Wy (wipeS vs Γy) acc' := fun {Wy Γy acc'} h => ⟨h.le, by rw [← hwe]; exact h.rl.wipe hio, h.nA, h.nF, h.at_⟩
      cases c with
      | false => exact iteF ⟨W5, Γ5, acc, rfl, turn h5, w5⟩
      | true =>
        refine iteT (qe ρ W5 σ4 Γ5 _ r5 (wp_mono (wp_bind.mp w5) fun yd Γ6 _ w6 yv W6 l6 r6 ry => ?_))
        have h6 := h5.next l6 r6
        obtain ⟨us, e6, rp6⟩ := h6.at_
        obtain ⟨ys, Γ7, e7, p7⟩ := wp_ok (wp_bind.mp w6)
        have p7 : Post acc (yd :: ys) Γ7 := p7
        have hlen := p7.1
        refine ⟨us, e6, ?_, ?_⟩
        · rw [← reps_len rp6]
          have : acc.length < line := by simp only [List.length_append, List.length_cons] at hlen; omega
          exact Nat.lt_of_lt_of_le this (Nat.le_of_eq sizeLine_eq.symm)
        · have r7 : Rl G.K C.io ρ ⟨W6.F, upd W6.H D (.lst (us ++ [yv])), W6.A⟩ σ4 Γ6 := by
            have ne : ∀ {j a}, W6.A j a → a ≠ D := fun q z => h6.nA _ (by rw [← z]; exact q)
            refine ⟨fun a u e => ?_, r6.len, fun j t e => ?_, r6.dis, r6.nof, fun j a q => ?_, r6.fix⟩
            · show upd W6.H D _ a = some u
              rw [upd_ne (ne_of_none e h6.nF)]
              exact r6.sub a u e
            · obtain ⟨v, e2, o⟩ := r6.slot j t e
              exact ⟨v, e2, own_sub Sub.rfl' t v _ _ (fun _ q => q) (fun a x q hx => by show upd W6.H D _ a = some x; rw [upd_ne (ne q)]; exact hx) o⟩
            · obtain ⟨u, hu⟩ := r6.alc j a q
              exact ⟨u, by show upd W6.H D _ a = some u; rw [upd_ne (ne q)]; exact hu⟩
          have h7 : LcI G.K C.io ρ W1 D σ4 ⟨W6.F, upd W6.H D (.lst (us ++ [yv])), W6.A⟩ Γ6 (acc ++ [yd]) := by
            refine ⟨⟨h6.le.ext, fun a o n h => ?_, h6.le.ft, h6.le.nw⟩, r7, h6.nA, h6.nF, _, upd_same, reps_app rp6 (reps_cons ry reps_nil)⟩
            show upd W6.H D _ a = some o
            rw [upd_ne (fun z => by rw [z, hD] at h; cases h)]
            exact h6.le.fr a o n h
          refine ⟨_, Γ6, acc ++ [yd], rfl, turn h7, ?_⟩
          rw [e7]
          show Post (acc ++ [yd]) ys Γ7
          show (acc ++ [yd] ++ ys).length ≤ line ∧ ∀ v W' B, Le W W' → Rl G.K C.io ρ W' σ Γ7 → Fre G.K false W W' (.fl (acc ++ [yd] ++ ys)) v B → Q v W'.H
          rw [List.append_assoc]
          exact p7
  · have hi2 : i = ds.length := by omega
    subst hi2
    rw [List.drop_length, lcM_nil] at wx
    refine .inl ⟨yl.stop _ Wx.F Wx.H hx.le.ext hx.rl.sub rfl, ?_⟩
    have wx' : Post acc [] (wipeS vs Γx) := wx
    show Q (.ref D) Wx.H
    have wx2 : (acc ++ []).length ≤ line ∧ ∀ v W' B, Le W W' → Rl G.K C.io ρ W' σ (wipeS vs Γx) → Fre G.K false W W' (.fl (acc ++ [])) v B → Q v W'.H := wx'
    rw [List.append_nil] at wx2
    exact fin Wx _ acc hx wx2.1 wx2.2

/-- the parts in the block, whatever it starts from -/
theorem blk_tg {is : List Nat} {mg : D → Sl → Option Sl} (h : ST G (blkCt C scope) tg is mg) {X : Cx} (ok : OkX G C X) : ∃ g : TG, (∀ (s : Shared) (H : Hp) (c : Addr) (cl : List (Str × Addr)) (fp : List Addr), PG (X.blk s H scope (compEnvC scope cl c X.env) fp) tg g) ∧
    ∀ ρ W σ Γ v d Γ' Q, Rl G.K C.io ρ W σ Γ → rep G.K W.F d v → mg d Γ = some Γ' → (∀ σ' W', Le W W' → W'.F = W.F → W'.H = W.H → (∀ j, j ∉ is → σ'[j]? = σ[j]?) → σ'.length = σ.length → Rl G.K C.io ρ W' σ' Γ' → Q σ' W'.H) → g v σ W.H Q := by
  have hT := fun (s : Shared) (H : Hp) (c : Addr) (cl : List (Str × Addr)) (fp : List Addr) => h.go _ (ok_blk (scope := scope) ok s H c cl fp)
  refine ⟨fun v σ H' Q => ∀ s H c cl fp, (hT s H c cl fp).choose v σ H' Q, fun s H c cl fp => ⟨fun pins s' σ H' v u Q I r q => (hT s H c cl fp).choose_spec.1.run pins s' σ H' v u Q I r (q s H c cl fp)⟩, ?_⟩
  exact fun ρ W σ Γ v d Γ' Q r rp e k s H c cl fp => (hT s H c cl fp).choose_spec.2 ρ W σ Γ v d Γ' Q r rp e k
theorem blk_bs {mt : M Bool} (h : SBs G (blkCt C scope) ifs mt) {X : Cx} (ok : OkX G C X) : ∃ t : TT, (∀ (s : Shared) (H : Hp) (c : Addr) (cl : List (Str × Addr)) (fp : List Addr), PTs (X.blk s H scope (compEnvC scope cl c X.env) fp) ifs t) ∧
    ∀ ρ W σ Γ Q, Rl G.K C.io ρ W σ Γ → wp (mt Γ) (fun d Γ' => ∀ W', Le W W' → Rl G.K C.io ρ W' σ Γ' → Q d W'.H) → t σ W.H Q := by
  have hT := fun (s : Shared) (H : Hp) (c : Addr) (cl : List (Str × Addr)) (fp : List Addr) => h.go _ (ok_blk (scope := scope) ok s H c cl fp)
  refine ⟨fun σ H' Q => ∀ s H c cl fp, (hT s H c cl fp).choose σ H' Q, fun s H c cl fp => ⟨fun pins s' σ H' Q I q => (hT s H c cl fp).choose_spec.1.run pins s' σ H' Q I (q s H c cl fp)⟩, ?_⟩
  exact fun ρ W σ Γ Q r w s H c cl fp => (hT s H c cl fp).choose_spec.2 ρ W σ Γ Q r w
theorem blk_se {e : Expr} {me : M D} (h : SE G (blkCt C scope) false e me) {X : Cx} (ok : OkX G C X) : ∃ t : TE, (∀ (s : Shared) (H : Hp) (c : Addr) (cl : List (Str × Addr)) (fp : List Addr), PE (X.blk s H scope (compEnvC scope cl c X.env) fp) e t) ∧
    ∀ ρ W σ Γ Q, Rl G.K C.io ρ W σ Γ → wp (me Γ) (fun d Γ' => ∀ v W', Le W W' → Rl G.K C.io ρ W' σ Γ' → rep G.K W'.F d v → Q v W'.H) → t σ W.H Q := by
  have hT := fun (s : Shared) (H : Hp) (c : Addr) (cl : List (Str × Addr)) (fp : List Addr) => h.go _ (ok_blk (scope := scope) ok s H c cl fp)
  refine ⟨fun σ H' Q => ∀ s H c cl fp, (hT s H c cl fp).choose σ H' Q, fun s H c cl fp => ⟨fun pins s' σ H' Q I q => (hT s H c cl fp).choose_spec.1.run pins s' σ H' Q I (q s H c cl fp)⟩, ?_⟩
  exact fun ρ W σ Γ Q r w s H c cl fp => (hT s H c cl fp).choose_spec.2 ρ W σ Γ Q r w
theorem so_lc {mi : M (List D)} {mg : D → Sl → Option Sl} {mt : M Bool} {me : M D} (P : LcP G C tg iter elt ifs scope own mi mg mt me) (hs : ∀ env x, foldedSetIterable iter env x = pure x) : SO G C false (.ListComp elt [⟨tg, iter, ifs, 0⟩] scope pos) (mLc (own.map (·.2)) mi mg mt me) := ⟨fun z => (by cases z), fun X ok => by
  obtain ⟨is, hi, hg, ht, he, his⟩ := P.ex
  obtain ⟨wi, pi, qi⟩ := hi.go X ok
  obtain ⟨g, pg, qg⟩ := blk_tg hg ok
  obtain ⟨tt, pt, qt⟩ := blk_bs ht ok
  obtain ⟨te, pe, qe⟩ := blk_se he ok
  refine ⟨_, pe_lc ok.calm (by rw [ok.eN]; exact ok.nd) pi (by rw [ok.eN, ok.es]; exact P.blk) pg pt pe (hs X.env), fun ρ W σ Γ Q rl w => ?_⟩
  exact lc_run (C := C) (C' := C) rfl qi qg qt qe his P.io rl w⟩
theorem st_setLc {i : Nat} {mi : M (List D)} {mg : D → Sl → Option Sl} {mt : M Bool} {me : M D} (P : LcP G C tg iter elt ifs scope own mi mg mt me) (hs : ∀ env x, foldedSetIterable iter env x = pure x) (hN : C.N[i]? = some y) (hx : C.sc.names.lookup y = some .local) (hio : i ∉ C.io)
    (hk : C.sc.kind = .function) (hl : (py.line == pos.line) = true) (ha : (scope.names.any fun (n, k) => n == y && (k == .local || k == .cell)) = false) :
    SS G C (.Assign [.Name y py] (.ListComp elt [⟨tg, iter, ifs, 0⟩] scope pos) spos) (mSet i (mLc (own.map (·.2)) mi mg mt me)) := ⟨fun X ok => by
  obtain ⟨is, hi, hg, ht, he, his⟩ := P.ex
  obtain ⟨wi, pi, qi⟩ := hi.go X ok
  obtain ⟨g, pg, qg⟩ := blk_tg hg ok
  obtain ⟨tt, pt, qt⟩ := blk_bs ht ok
  obtain ⟨te, pe, qe⟩ := blk_se he ok
  refine ⟨_, ps_setLc ok.calm (by rw [ok.eN]; exact ok.nd) (by rw [ok.eN]; exact hN) (by rw [ok.es]; exact hx) (sw_true (by rw [ok.es]; exact hk) (by rw [ok.es]; exact hx) hl ha) pi (by rw [ok.eN, ok.es]; exact P.blk) pg pt pe (hs X.env), fun ρ W σ Γ E rl w => ?_⟩
  refine lc_run (C := C) (C' := C) (Q := fun x H1 => gName i x σ H1 E.nx) rfl qi qg qt qe his P.io rl (wp_mono (wp_bind.mp w) fun t Γ1 _ w1 v W1 B l1 r1 f => ?_)
  unfold setS at w1
  split at w1
  · rename_i Γ' e1
    split at e1
    · rename_i hi
      cases e1
      obtain ⟨r2, l2⟩ := r1.setOwn l1 f hi hio
      exact w1 _ ⟨W1.F, W1.H, fun j a => if j = i then B a else W1.A j a⟩ l2 r2
    · cases e1
  · exact w1.elim⟩
end
end PM
set_option Elab.async false
set_option linter.all false
set_option maxRecDepth 100000
set_option maxHeartbeats 2000000
set_option autoImplicit false
namespace PM
open PySem PySem.Spec PyProof.Rows L2
/-- the mirror answers True at every script of at most n ints -/
def TrueAt (n N : Nat) (m : M Out) : Prop := ∀ ns : List Int, ns.length ≤ n → ∃ Γ, m (start' N [.sh (.frz (ns.map .int))]) = .ok (.rt (.sh (.bl true))) Γ
theorem law_sp {G : Gb} {C : Ct} {m : M Out} {H : Hp} {a : Addr} {ns : List Int} (hN : 1 ≤ C.N.length) (hS : SqL G.K H a (ns.map V.int)) (h : ∃ Γ, m (start' C.N.length [.sh (.frz (ns.map .int))]) = .ok (.rt (.sh (.bl true))) Γ) : fsp G C m [.ref a] H (fun v _ => v = .bl true) := by
  obtain ⟨Γ, e⟩ := h
  refine ⟨[], ⟨H, H, fun _ _ => False⟩, _, rfl, ⟨Sub.rfl', ?_, fun i t e => ?_, fun _ _ _ _ z => z.elim, fun _ _ z => z.elim, fun _ _ z => z.elim, fun p hp => by cases hp⟩, by rw [e]; exact fun v σ' W' B l r f => f.own⟩
  · unfold L2.start start'
    simp
  · have e1 := start_get e
    cases i with
    | succ i => simp at e1
    | zero =>
      obtain rfl : T.sh (.frz (ns.map .int)) = t := by simpa using e1
      exact ⟨.ref a, by unfold L2.start; simp, a, _, rfl, hS, reps_ints ns⟩
theorem g_call {P : Program} {w : World} {K : PySem.W.Frag} {mg mb : Str → Option Value} {k : Nat} {fa a : Addr} {C : Ct} {m : M Out} {s₁ : Shared} {vs : List Value} {ns : List Int}
    (KX : K.In s₁.heap) (hns : s₁.heap.Ns mainGlobals mg) (hb : s₁.heap.Ns builtinsNs mb) (hbb : ∀ x : Str, x ≠ "__name__" → mb x = bootBuiltins x) (hlim : s₁.heap.NoLimit) (hg : s₁.gens = #[])
    (ha : s₁.heap.get? a = some { cls := .type "list", data := .seq vs.toArray }) (hi : IntsAre vs ns) (hl : ns.length ≤ sizeLine) (hr : Room k callerA)
    (F : ∀ base : Heap, K.In base → base.Ns mainGlobals mg → FnK ⟨P, w, K, mg, base⟩ k fa 1 C m) (hN : 1 ≤ C.N.length)
    (hm : ∃ Γ, m (start' C.N.length [.sh (.frz (ns.map .int))]) = .ok (.rt (.sh (.bl true))) Γ) :
    codeAny (model P w) callerA (.call (.ref fa) ⟨[.ref a], []⟩) (fun r s' => r = .ok (.ret (.bool true)) ∧ OldK s₁.heap s'.heap ∧ s'.os = s₁.os ∧ AllBare s'.gens) s₁ := by
  have rv := vals_ints hi
  have main : ∀ H : Hp, (∀ b, H b = none ∨ (b = a ∧ H b = some (.frz { cls := .type "list", data := .seq vs.toArray } (.lst (ns.map V.int))))) → SqL K H a (ns.map V.int) → HOk P w H s₁.heap → (H a ≠ none → K.lookup a = none) →
      codeAny (model P w) callerA (.call (.ref fa) ⟨[.ref a], []⟩) (fun r s' => r = .ok (.ret (.bool true)) ∧ OldK s₁.heap s'.heap ∧ s'.os = s₁.os ∧ AllBare s'.gens) s₁ := by
    intro H hO hS hok hK
    have free : ∀ {b : Addr} {o : Obj}, s₁.heap.get? b = some o → (∀ es ep, o.data ≠ .dict es ep) ∨ H b = none := fun {b o} e => by
      rcases hO b with q | ⟨rfl, _⟩
      · exact .inr q
      · rw [ha] at e; cases e
        exact .inl fun _ _ z => nomatch z
    have ns_of : ∀ {b : Addr} {m : Str → Option Value}, s₁.heap.Ns b m → (hidT s₁.heap H).Ns b m := fun {b m} ⟨o, es, ep, e, d, r⟩ => ⟨o, es, ep, hidT_get e ((free e).resolve_left fun z => z es ep d), d, r⟩
    have hKb : K.In (hidT s₁.heap H) := fun b o e => hidT_get (KX b o e) (by
      rcases hO b with q | ⟨rfl, q⟩
      · exact q
      · rw [hK (by rw [q]; simp)] at e; cases e)
    have hM : Mod K mg (hidT s₁.heap H) := ⟨hKb, ns_of hns, ⟨mb, ns_of hb, hbb⟩, let ⟨mc, h1, h2⟩ := hlim; ⟨mc, ns_of h1, h2⟩⟩
    have e0 : Env0 P w K mg (hidT s₁.heap H) callerA [] s₁ H := ⟨rfl, hM, fun b o e => of_hidT e, Nat.le_of_eq (hidT_size _ _), trivial, fun b hb => absurd (show b ∈ ([] : List Addr) from hb) (by simp), hok, .of_eq hg⟩
    obtain ⟨fd, ps, FG, bd, hp⟩ := (F _ hKb (ns_of hns)).ex
    have r2 : Vals [V.ref a] [Value.ref a] := .cons rfl .nil
    refine codeAny_mono (FG.run callerA [] s₁ H ⟨[.ref a], []⟩ [.ref a] [.ref a] _ hr rfl e0 (.of_eq (bd [.ref a] hp.symm)) r2 hp.symm (law_sp (G := ⟨P, w, K, mg, hidT s₁.heap H⟩) hN hS hm)) fun r s' h => ?_
    cases r with
    | error e => exact h.elim
    | ok fl =>
      cases fl with
      | next => exact h.elim
      | brk => exact h.elim
      | cont => exact h.elim
      | ret u =>
        obtain ⟨v, H', os, bare, un, hok', r', rfl⟩ := h
        obtain rfl : u = Value.bool true := r'
        refine ⟨rfl, OldK.of_keep fun b o e => ?_, os, bare⟩
        rcases hO b with q | ⟨rfl, q⟩
        · exact un.keep b o e q (by intro z; exact absurd (show b ∈ ([] : List Addr) from z) (by simp)) (by simp)
        · obtain ⟨e2, _⟩ := hok' b _ (un.frzs b _ _ q)
          rw [ha] at e; cases e
          exact e2
  cases hk : K.lookup a with
  | some o =>
    have e := KX a o hk
    rw [ha] at e; cases e
    exact main (fun _ => none) (fun _ => .inl rfl) (.inr ⟨_, vs.toArray, _, hk, rfl, rfl, rfl, by rw [List.size_toArray, hi.length]; exact hl, by simpa using rv⟩) (fun b u z => by have z' : (none : Option HO) = some u := z; cases z') fun z => absurd rfl z
  | none =>
    refine main (fun b => if b = a then some (.frz { cls := .type "list", data := .seq vs.toArray } (.lst (ns.map V.int))) else none) (fun b => ?_) (.inl (.inr ⟨_, if_pos rfl⟩)) (fun b u z => ?_) fun _ => hk
    · by_cases hb : b = a
      · exact .inr ⟨hb, if_pos hb⟩
      · exact .inl (if_neg hb)
    · by_cases hb : b = a
      · have z' := (if_pos hb).symm.trans z
        cases z'
        subst hb
        exact ⟨ha, by rw [List.length_map]; exact hl, vs, _, rv, ha⟩
      · have z' := (if_neg hb).symm.trans z
        cases z'
/-- THE LAW'S END: from the def by its mirror -/
theorem walk_end {l : PySem.W.OpenLaw} {n k : Nat} {q : Program} {loose : List Str} {XP : (Str → Option Value) → Heap → Prop} {YP : World → Heap → Prop} {d : DefRec} {C : Ct} {m : M Out}
    (hn : l.most = some n) (hn2 : n ≤ sizeLine) (hdf : d.params.defaults = []) (hr : Room k callerA) (hN : 1 ≤ C.N.length)
    (F : ∀ (w : World) (mg : Str → Option Value) (fa : Addr) (h : Heap), YP w h → h.Ns mainGlobals mg → mg d.name = some (.ref fa) → ∃ K : PySem.W.Frag, K.In h ∧ ∀ base : Heap, K.In base → base.Ns mainGlobals mg → FnK ⟨l.prog, w, K, mg, base⟩ k fa 1 C m)
    (hm : TrueAt n C.N.length m) : PySem.W.WalkO q loose XP YP l.row.toRowW d [] (fun f vs => PySem.call f vs) := by
  refine Att.attach_call hn hdf fun w s₀ s₁ mg mb fa o pm cd doc a vs ns G Y ho hd hcd hmg hobj hints hlen hg => ?_
  obtain ⟨K, KX, hF⟩ := F w mg fa _ Y G.T.g hmg
  exact g_call KX G.T.g G.T.b G.T.builtins G.T.nolimit hg hobj hints (Nat.le_trans hlen hn2) hr hF hN (hm ns hlen)
end PM
set_option Elab.async false
set_option linter.all false
set_option maxRecDepth 100000
set_option maxHeartbeats 2000000
set_option autoImplicit false
namespace PM
open PySem PySem.Spec PyProof.Rows L2
/-! ### side conditions as one Bool -/
def visC (sc : Scope) (x : Str) : Bool := match sc.names.lookup x with
  | some .local => true
  | some .cell => true
  | some .free => true
  | _ => false
theorem visC_ok {sc : Scope} {x : Str} (h : visC sc x = true) : Vis sc x := by
  unfold visC at h
  split at h
  · exact .inl (by assumption)
  · exact .inr (.inl (by assumption))
  · exact .inr (.inr (by assumption))
  · cases h
def locC (sc : Scope) (x : Str) : Bool := match sc.names.lookup x with
  | some .local => true
  | some .cell => true
  | _ => false
theorem locC_ok {sc : Scope} {x : Str} (h : locC sc x = true) : Loc sc x := by
  unfold locC at h
  split at h
  · exact .inl (by assumption)
  · exact .inr (by assumption)
  · cases h
def varB (C : Ct) (i : Nat) (x : Str) : Bool := decide (C.N[i]? = some x) && (visC C.sc x && (!(x == ("__debug__" : Str)) && !(x == ("__classdict__" : Str))))
theorem varB_ok {C : Ct} {i : Nat} {x : Str} (h : varB C i x = true) : C.N[i]? = some x ∧ Vis C.sc x ∧ (x == ("__debug__" : Str)) = false ∧ (x == ("__classdict__" : Str)) = false := by
  unfold varB at h
  simp only [Bool.and_eq_true, decide_eq_true_eq, Bool.not_eq_true'] at h
  exact ⟨h.1, visC_ok h.2.1, h.2.2.1, h.2.2.2⟩
def tgB (C : Ct) (i : Nat) (x : Str) : Bool := decide (C.N[i]? = some x) && (locC C.sc x && (!(C.io.contains i) && (C.fn x || decide (C.sc.names.lookup x = some .local))))
theorem tgB_ok {C : Ct} {i : Nat} {x : Str} (h : tgB C i x = true) : C.N[i]? = some x ∧ Loc C.sc x ∧ i ∉ C.io ∧ (C.fn x = true ∨ C.sc.names.lookup x = some .local) := by
  unfold tgB at h
  simp only [Bool.and_eq_true, decide_eq_true_eq, Bool.not_eq_true', Bool.or_eq_true] at h
  refine ⟨h.1, locC_ok h.2.1, fun m => ?_, h.2.2.2⟩
  have := List.contains_iff_mem.mpr m
  rw [h.2.2.1] at this; cases this
def gloB (C : Ct) (x : Str) : Bool := decide (C.sc.names.lookup x = some .globalImplicit)
theorem gloB_ok {C : Ct} {x : Str} (h : gloB C x = true) : C.sc.names.lookup x = some .globalImplicit := of_decide_eq_true h
theorem blt_ok {G : Gb} {C : Ct} {x : Str} (h : gloB C x = true) (hm : G.mg x = none) : Blt G C x := ⟨gloB_ok h, hm⟩
section
variable {G : Gb} {C : Ct} {b : Bool} {x : Str} {pos p : Pos} {e a : Expr} {es : List Expr} {js : List (Option Nat)}
theorem v_se (i : Nat) (h : varB C i x = true) : SE G C b (.Name x pos) (mVar i) := let ⟨h1, h2, h3, h4⟩ := varB_ok h; se_var i h1 h2 h3 h4
theorem v_fz (i : Nat) (h : varB C i x = true) : SE G C false (.Name x pos) (mFz i) := let ⟨h1, h2, h3, h4⟩ := varB_ok h; se_fz i h1 h2 h3 h4
theorem v_op (i : Nat) (h : varB C i x = true) : OP G C b (.Name x pos) (mVw i) := let ⟨h1, h2, h3, h4⟩ := varB_ok h; op_var i h1 h2 h3 h4
theorem v_mv (i : Nat) (h : varB C i x = true) : SO G C false (.Name x pos) (mMv i) := let ⟨h1, h2, h3, h4⟩ := varB_ok h; so_mv i h1 h2 h3 h4
theorem v_lent (i : Nat) {n : M (List D)} (h : varB C i x = true) (k : SX G C es js n) : SX G C (.Name x p :: es) (some i :: js) (mLent i n) := let ⟨h1, h2, h3, h4⟩ := varB_ok h; sx_lent i k h1 h2 h3 h4
theorem v_pl (i : Nat) (h : varB C i x = true) : SPl G C (.Name x pos) i [] := let ⟨h1, h2, h3, h4⟩ := varB_ok h; spl_var i h1 h2 h3 h4
theorem v_tg (i : Nat) (h : tgB C i x = true) : ST G C (.Name x pos) [i] (tgN i) := let ⟨h1, h2, h3, h4⟩ := tgB_ok h; tg_name h1 h2 h3 h4
theorem v_set {pos' : Pos} (i : Nat) {m : M T} (k : SO G C false e m) (h : tgB C i x = true) (hs : ∀ env : Env, env.scope = C.sc → swapsWith e (some (.Name x pos')) pos.line env = pure false) : SS G C (.Assign [.Name x pos'] e pos) (mSet i m) := let ⟨h1, h2, h3, h4⟩ := tgB_ok h; st_set k h1 h2 h3 hs h4
def setLcB (C : Ct) (i : Nat) (y : Str) (scope : Scope) (py pos : Pos) : Bool := decide (C.N[i]? = some y) && (decide (C.sc.names.lookup y = some .local) && (!(C.io.contains i) && ((match C.sc.kind with | .function => true | _ => false) && ((py.line == pos.line) && !(scope.names.any fun (n, k) => n == y && (k == .local || k == .cell))))))
theorem v_setLc {tg iter elt : Expr} {ifs : List Expr} {scope : Scope} {own : List (Str × Nat)} {pos spos py : Pos} {y : Str} {mi : M (List D)} {mg : D → Sl → Option Sl} {mt : M Bool} {me : M D} (i : Nat) (P : LcP G C tg iter elt ifs scope own mi mg mt me) (h : setLcB C i y scope py pos = true) (hs : ∀ env x, foldedSetIterable iter env x = pure x) :
    SS G C (.Assign [.Name y py] (.ListComp elt [⟨tg, iter, ifs, 0⟩] scope pos) spos) (mSet i (mLc (own.map (·.2)) mi mg mt me)) := by
  unfold setLcB at h
  simp only [Bool.and_eq_true, decide_eq_true_eq, Bool.not_eq_true'] at h
  obtain ⟨h1, h2, h3, h4, h5, h6⟩ := h
  refine st_setLc P hs h1 h2 (fun m => ?_) ?_ h5 h6
  · have := List.contains_iff_mem.mpr m
    rw [h3] at this; cases this
  · split at h4
    · assumption
    · cases h4
def lcB (C : Ct) (scope : Scope) (own : List (Str × Nat)) (is : List Nat) : Bool := blkC C.N C.sc scope own && ((is.all fun i => (own.map (·.2)).contains i) && C.io.all fun i => !((own.map (·.2)).contains i))
theorem lcP {tg iter elt : Expr} {ifs : List Expr} {scope : Scope} {own : List (Str × Nat)} {is : List Nat} {mi : M (List D)} {mg : D → Sl → Option Sl} {mt : M Bool} {me : M D} (hi : SI G C false tg iter mi) (hg : ST G (blkCt C scope) tg is mg) (ht : SBs G (blkCt C scope) ifs mt) (he : SE G (blkCt C scope) false elt me) (h : lcB C scope own is = true) :
    LcP G C tg iter elt ifs scope own mi mg mt me := by
  unfold lcB at h
  simp only [Bool.and_eq_true] at h
  obtain ⟨h1, h2, h3⟩ := h
  refine ⟨⟨is, hi, hg, ht, he, fun i hm => List.contains_iff_mem.mp (List.all_eq_true.mp h2 i hm)⟩, blkOk_by h1, fun i hm hc => ?_⟩
  have := List.all_eq_true.mp h3 i hm
  rw [List.contains_iff_mem.mpr hc] at this; cases this
/-- a value in place of what may only be looked at -/
theorem SE.op' {m : M D} (h : SE G C b e m) : OP G C b e m := h.op
def onceB (js : List (Option Nat)) : Bool := match js with
  | [] => true
  | none :: js => onceB js
  | some j :: js => !(js.contains (some j)) && onceB js
theorem onceB_ok : ∀ {js : List (Option Nat)}, onceB js = true → ∀ i i' j : Nat, js[i]? = some (some j) → js[i']? = some (some j) → i = i'
  | [], _, i, i', j, h, _ => by simp at h
  | none :: js, h, i, i', j, h1, h2 => by
    cases i with
    | zero => cases h1
    | succ i => cases i' with
      | zero => cases h2
      | succ i' => exact congrArg Nat.succ (onceB_ok (js := js) h i i' j h1 h2)
  | some k :: js, h, i, i', j, h1, h2 => by
    obtain ⟨g1, g2⟩ := Bool.and_eq_true_iff.mp (show (!(js.contains (some k)) && onceB js) = true from h)
    have nin : ∀ i : Nat, js[i]? ≠ some (some k) := fun i e => by
      have := List.contains_iff_mem.mpr (List.mem_of_getElem? e)
      rw [this] at g1; cases g1
    cases i with
    | zero =>
      have e : k = j := by simpa using h1
      subst e
      cases i' with
      | zero => rfl
      | succ i' => exact (nin i' h2).elim
    | succ i => cases i' with
      | zero =>
        have e : k = j := by simpa using h2
        subst e
        exact (nin i h1).elim
      | succ i' => exact congrArg Nat.succ (onceB_ok (js := js) g2 i i' j h1 h2)
def ioB (js : List (Option Nat)) (io : List Nat) : Nat → Bool := fun k => match js with
  | [] => true
  | none :: js => ioB js io (k + 1)
  | some _ :: js => io.contains k && ioB js io (k + 1)
theorem ioB_ok {io : List Nat} : ∀ {js : List (Option Nat)} {k : Nat}, ioB js io k = true → ∀ i j : Nat, js[i]? = some (some j) → k + i ∈ io
  | [], k, _, i, j, h => by simp at h
  | none :: js, k, h, i, j, e => by
    cases i with
    | zero => cases e
    | succ i => have := ioB_ok (js := js) (k := k + 1) h i j e; rw [show k + (i + 1) = k + 1 + i by omega]; exact this
  | some _ :: js, k, h, i, j, e => by
    obtain ⟨g1, g2⟩ := Bool.and_eq_true_iff.mp (show (io.contains k && ioB js io (k + 1)) = true from h)
    cases i with
    | zero => exact List.contains_iff_mem.mp g1
    | succ i => have := ioB_ok (js := js) (k := k + 1) g2 i j e; rw [show k + (i + 1) = k + 1 + i by omega]; exact this
def callB (C Cc : Ct) (x : Str) (js : List (Option Nat)) (k : Nat) : Bool := decide (k ≤ C.k) && (gloB C x && (onceB js && (ioB js Cc.io 0 && (decide (js.length ≤ Cc.N.length) && !(x == ("__debug__" : Str))))))
theorem v_call {Cc : Ct} {m : M Out} {ma : M (List D)} {f : Addr} {k : Nat} (F : FnK G k f js.length Cc m) (hm : G.mg x = some (.ref f)) (ha : SX G C (e :: es) js ma) (h : callB C Cc x js k = true) (hp : Pln e) (hpl : ∀ env, (backTo pos (starEach es env)).any (·.1) = false) :
    SO G C false (.Call (.Name x p) (e :: es) [] pos) (mCall Cc.N.length m js ma) := by
  unfold callB at h
  simp only [Bool.and_eq_true, decide_eq_true_eq, Bool.not_eq_true'] at h
  obtain ⟨h1, h2, h3, h4, h5, h6⟩ := h
  exact so_call F h1 hm (gloB_ok h2) ha (onceB_ok h3) (fun i j e => by have := ioB_ok h4 i j e; rwa [Nat.zero_add] at this) h5 h6 hp hpl
def methB (C Cc : Ct) (js : List (Option Nat)) (k : Nat) : Bool := decide (k ≤ C.k) && (onceB js && (ioB js Cc.io 1 && decide (js.length + 1 ≤ Cc.N.length)))
theorem v_meth {Cc : Ct} {m : M Out} {mo : M D} {ma : M (List D)} {f : Addr} {k : Nat} {c mn : Str} {o : Expr} {apos : Pos} (F : FnK G k f (js.length + 1) Cc m) (hc : Cls G.K (He.ga G.K c)) (hm : Meth G.K (He.ga G.K c) mn f) (ho : SE G C false o mo) (ha : SX G C (e :: es) js ma) (h : methB C Cc js k = true) (hp : Pln e) (hpl : ∀ env, (backTo pos (starEach es env)).any (·.1) = false) (hf : MethForm o mn apos pos (e :: es)) :
    SO G C false (.Call (.Attribute o mn apos) (e :: es) [] pos) (mMeth c mn Cc.N.length m js mo ma) := by
  unfold methB at h
  simp only [Bool.and_eq_true, decide_eq_true_eq, Bool.not_eq_true'] at h
  obtain ⟨h1, h3, h4, h5⟩ := h
  refine so_meth F h1 hc hm ho ha (onceB_ok h3) (fun i j e => ?_) h5 hp hpl hf
  cases i with
  | zero => cases e
  | succ i => have := ioB_ok h4 i j e; rwa [Nat.add_comm] at this
theorem len_cons2 {m : M D} {n : M (List D)} {k : Nat} (h : ∀ Γ ds Γ', n Γ = .ok ds Γ' → ds.length = k) : ∀ Γ ds Γ', mCons m n Γ = .ok ds Γ' → ds.length = k + 1 := by
  intro Γ ds Γ' e
  rw [mCons_ap] at e
  cases e1 : m Γ with
  | stuck => rw [e1] at e; cases e
  | ok d Γ1 =>
    rw [e1] at e
    simp only [R.bind_ok] at e
    cases e2 : n Γ1 with
    | stuck => rw [e2] at e; cases e
    | ok ds2 Γ2 =>
      rw [e2] at e
      simp only [R.bind_ok] at e
      cases e
      rw [List.length_cons, h _ _ _ e2]
theorem len_nil2 : ∀ (Γ : Sl) (ds : List D) (Γ' : Sl), (M.pure ([] : List D)) Γ = .ok ds Γ' → ds.length = 0 := by
  intro Γ ds Γ' e; cases e; rfl
theorem tg0_len : ∀ (ds : List D) (Γ Γ' : Sl), tgs0 ds Γ = some Γ' → ds.length = 0 := fun ds Γ Γ' h => by
  unfold tgs0 at h; split at h
  · rfl
  · cases h
theorem tgC_len {m : D → Sl → Option Sl} {n : List D → Sl → Option Sl} {k : Nat} (h : ∀ (ds : List D) (Γ Γ' : Sl), n ds Γ = some Γ' → ds.length = k) : ∀ (ds : List D) (Γ Γ' : Sl), tgsC m n ds Γ = some Γ' → ds.length = k + 1 := fun ds Γ Γ' e => by
  unfold tgsC at e
  split at e
  · obtain ⟨Γ1, _, e2⟩ := Option.bind_eq_some_iff.mp e
    rw [List.length_cons, h _ _ _ e2]
  · cases e
def makeB (C Cc : Ct) (x : Str) (n k : Nat) : Bool := decide (k + 1 ≤ C.k) && (gloB C x && (Cc.io.contains 0 && (decide (n + 2 ≤ Cc.N.length) && !(x == ("__debug__" : Str)))))
theorem v_make {Cc : Ct} {m : M Out} {ma : M (List D)} {f : Addr} {k : Nat} {c : Str} (F : FnK G k f (es.length + 2) Cc m) (hM : Mk G.K (He.ga G.K c) f) (hm : G.mg x = some (.ref (He.ga G.K c))) (ha : SA G C b (e :: es) ma) (hla : ∀ Γ ds Γ', ma Γ = .ok ds Γ' → ds.length = es.length + 1) (h : makeB C Cc x es.length k = true) (hp : Pln e) (hpl : ∀ env, (backTo pos (starEach es env)).any (·.1) = false) :
    SO G C b (.Call (.Name x p) (e :: es) [] pos) (mMake c Cc.N.length m ma) := by
  unfold makeB at h
  simp only [Bool.and_eq_true, decide_eq_true_eq, Bool.not_eq_true'] at h
  obtain ⟨h1, h2, h3, h4, h5⟩ := h
  exact so_make F h1 hM hm (gloB_ok h2) ha hla (List.contains_iff_mem.mp h3) h4 h5 hp hpl
def parB (C : Ct) (is : List Nat) (xs : List Str) : Bool := ((is.zip xs).all fun q => decide (C.N[q.1]? = some q.2) && (decide (C.sc.names.lookup q.2 = some .local) && !(C.io.contains q.1))) && decide is.Nodup
end
theorem v_par2 {G : Gb} {C : Ct} {x y : Str} {i j : Nat} {a1 a2 : Expr} {px py pt pt2 pos : Pos} {kt k2 : Nat} {m : M (List T)} (k : SQ G C false [a1, a2] m) (h : parB C [i, j] [x, y] = true)
    (hw : ∀ env : Env, env.scope = C.sc → swappedStores [.Tuple [.Name x px, .Name y py] kt pt] (.Tuple [a1, a2] k2 pt2) env = pure (some [x, y])) (hs : ∀ env, swapsWithSole [.Tuple [.Name x px, .Name y py] kt pt] (.Tuple [a1, a2] k2 pt2) pos.line env = pure false) :
    SS G C (.Assign [.Tuple [.Name x px, .Name y py] kt pt] (.Tuple [a1, a2] k2 pt2) pos) (mSetM [i, j] m) := by
  unfold parB at h
  simp only [List.zip_cons_cons, List.zip_nil_right, List.all_cons, List.all_nil, Bool.and_true, Bool.and_eq_true, decide_eq_true_eq, Bool.not_eq_true'] at h
  obtain ⟨⟨⟨h1, h2, h3⟩, h4, h5, h6⟩, h7⟩ := h
  refine st_par2 k h1 h4 (by simp at h7; exact h7) h2 h5 (fun n hn => ?_) hw hs
  have no : ∀ n, C.io.contains n = false → n ∉ C.io := fun n e hm => by rw [List.contains_iff_mem.mpr hm] at e; cases e
  rcases List.mem_cons.mp hn with rfl | hn
  · exact no _ h3
  · rw [List.mem_singleton.mp hn]; exact no _ h6
theorem v_par3 {G : Gb} {C : Ct} {x y z : Str} {i j l : Nat} {a1 a2 a3 : Expr} {px py pz pt pt2 pos : Pos} {kt k2 : Nat} {m : M (List T)} (k : SQ G C false [a1, a2, a3] m) (h : parB C [i, j, l] [x, y, z] = true)
    (hw : ∀ env : Env, env.scope = C.sc → swappedStores [.Tuple [.Name x px, .Name y py, .Name z pz] kt pt] (.Tuple [a1, a2, a3] k2 pt2) env = pure (some [x, y, z])) (hs : ∀ env, swapsWithSole [.Tuple [.Name x px, .Name y py, .Name z pz] kt pt] (.Tuple [a1, a2, a3] k2 pt2) pos.line env = pure false) :
    SS G C (.Assign [.Tuple [.Name x px, .Name y py, .Name z pz] kt pt] (.Tuple [a1, a2, a3] k2 pt2) pos) (mSetM [i, j, l] m) := by
  unfold parB at h
  simp only [List.zip_cons_cons, List.zip_nil_right, List.all_cons, List.all_nil, Bool.and_true, Bool.and_eq_true, decide_eq_true_eq, Bool.not_eq_true'] at h
  obtain ⟨⟨⟨h1, h2, h3⟩, ⟨h4, h5, h6⟩, h8, h9, h10⟩, h7⟩ := h
  simp at h7
  refine st_par3 k h1 h4 h8 h7.1.1 h7.1.2 h7.2 h2 h5 h9 (fun n hn => ?_) hw hs
  have no : ∀ n, C.io.contains n = false → n ∉ C.io := fun n e hm => by rw [List.contains_iff_mem.mpr hm] at e; cases e
  rcases List.mem_cons.mp hn with rfl | hn
  · exact no _ h3
  · rcases List.mem_cons.mp hn with rfl | hn
    · exact no _ h6
    · rw [List.mem_singleton.mp hn]; exact no _ h10
/-! ### more facts of the head -/
def bltB (K : PySem.W.Frag) (x : Str) (id : String) : Bool := He.eqO (PySem.W.nsIn K mainGlobals x) (some (some (.builtin id)))
theorem bltB_ok {K : PySem.W.Frag} {h : Heap} {mg : Str → Option Value} (X : K.In h) (G : h.Ns mainGlobals mg) {x : Str} {id : String} (c : bltB K x id = true) : mg x = some (.builtin id) := PySem.W.mg_of X G (He.eqO_ok c)
def insB (K : PySem.W.Frag) (x : Str) : Bool := He.eqO (PySem.W.findIn K (.ref (He.ga K x)) "__class__") (some (some (.builtin "object.__class__"))) && (He.eqO (PySem.W.specialIn K (.builtin "object.__class__") "__get__") (some (some (.builtin "getset_descriptor.__get__"))) &&
  (decide (PySem.W.takesIn K (.builtin "object.__class__") = some true) && (decide (PySem.W.mroIn K (He.ga K x) (.type "object") = some true) && decide (PySem.W.kitOne K (.ref (He.ga K x)) (.ref (He.ga K x)) = some true))))
theorem insB_ok {K : PySem.W.Frag} {x : Str} (hc : Cls K (He.ga K x)) (c : insB K x = true) : C8.InsC K (He.ga K x) := by
  unfold insB at c
  obtain ⟨h1, c⟩ := He.ba c
  obtain ⟨h2, c⟩ := He.ba c
  obtain ⟨h3, c⟩ := He.ba c
  obtain ⟨h4, h5⟩ := He.ba c
  exact ⟨hc, He.eqO_ok h1, He.eqO_ok h2, of_decide_eq_true h3, of_decide_eq_true h4, of_decide_eq_true h5⟩
theorem all_get {l : List Bool} (h : l.all id = true) (i : Nat) {b : Bool} (e : l[i]? = some b) : b = true := List.all_eq_true.mp h b (List.mem_of_getElem? e)
/-- the function's scope -/
def scB (N ps : List Str) (sc : Scope) : Bool := (match sc.kind with | .function => true | _ => false) && (!sc.isCoroutine && (!sc.isGenerator && (decide N.Nodup && (decide (N.take ps.length = ps) && ((ps.all fun x => locC sc x) && sc.names.all fun y => match y.2 with | .free => false | _ => true)))))
theorem scB_ok {N ps : List Str} {sc : Scope} (h : scB N ps sc = true) : FnScope N ps sc := by
  unfold scB at h
  simp only [Bool.and_eq_true, decide_eq_true_eq, Bool.not_eq_true'] at h
  obtain ⟨h1, h2, h3, h4, h5, h6, h7⟩ := h
  refine ⟨?_, h2, h3, h4, h5, fun x hx => ?_, fun y hy e => ?_⟩
  · split at h1
    · assumption
    · cases h1
  · exact locC_ok (List.all_eq_true.mp h6 x hx)
  · have := List.all_eq_true.mp h7 y hy
    rw [e] at this; cases this
end PM
set_option Elab.async false
set_option linter.all false
set_option maxRecDepth 100000
set_option maxHeartbeats 2000000
set_option autoImplicit false
namespace PM
open PySem PySem.Spec PyProof.Rows L2
/-! ### sorted(..) of tuples of ints and texts -/
abbrev TK := List (Int ⊕ List Nat)
abbrev tupO : KeyOrd := listOrd itemOrd
def keyI (shape : Nat → Bool) : Nat → List D → Option TK
  | _, [] => some []
  | i, .int n :: r => if shape i = true then none else (keyI shape (i + 1) r).map (Sum.inl n :: ·)
  | i, .str s :: r => if shape i = true then (keyI shape (i + 1) r).map (Sum.inr s :: ·) else none
  | _, _ :: _ => none
def keyD (shape : Nat → Bool) : D → Option TK
  | .tup [] => none
  | .tup (d :: ds) => keyI shape 0 (d :: ds)
  | _ => none
def ltD (shape : Nat → Bool) (a b : D) : Bool := match keyD shape a, keyD shape b with
  | some x, some y => tupO.blt x y
  | _, _ => false
theorem keyI_inj {shape : Nat → Bool} : ∀ (i : Nat) (ds es : List D) (k : TK), keyI shape i ds = some k → keyI shape i es = some k → ds = es := by
  intro i ds
  induction ds generalizing i with
  | nil =>
    intro es k h1 h2
    simp only [keyI, Option.some.injEq] at h1
    subst h1
    cases es with
    | nil => rfl
    | cons e es =>
      cases e <;> simp only [keyI] at h2 <;> first | cases h2 | (split at h2 <;> first | cases h2 | (obtain ⟨_, _, h⟩ := Option.map_eq_some_iff.mp h2; cases h))
  | cons d ds ih =>
    intro es k h1 h2
    have nb : ∀ (x : D) (xs : List D), keyI shape i (x :: xs) = some k → (∃ n k', x = .int n ∧ shape i = false ∧ k = Sum.inl n :: k' ∧ keyI shape (i + 1) xs = some k') ∨ (∃ s k', x = .str s ∧ shape i = true ∧ k = Sum.inr s :: k' ∧ keyI shape (i + 1) xs = some k') := by
      intro x xs h
      cases x with
      | int n =>
        simp only [keyI] at h
        split at h
        · cases h
        · rename_i hs
          obtain ⟨k', e1, e2⟩ := Option.map_eq_some_iff.mp h
          exact .inl ⟨n, k', rfl, by simpa using hs, e2.symm, e1⟩
      | str s =>
        simp only [keyI] at h
        split at h
        · rename_i hs
          obtain ⟨k', e1, e2⟩ := Option.map_eq_some_iff.mp h
          exact .inr ⟨s, k', rfl, hs, e2.symm, e1⟩
        · cases h
      | _ => simp only [keyI] at h; cases h
    cases es with
    | nil =>
      simp only [keyI, Option.some.injEq] at h2
      subst h2
      rcases nb d ds h1 with ⟨n, k', _, _, e, _⟩ | ⟨n, k', _, _, e, _⟩ <;> cases e
    | cons e es =>
      rcases nb d ds h1 with ⟨n, k', rfl, s1, e1, r1⟩ | ⟨n, k', rfl, s1, e1, r1⟩
      · rcases nb e es h2 with ⟨m, k2, rfl, s2, e2, r2⟩ | ⟨m, k2, rfl, s2, e2, r2⟩
        · rw [e1] at e2; cases e2
          rw [ih (i + 1) es k' r1 r2]
        · rw [e1] at e2; cases e2
      · rcases nb e es h2 with ⟨m, k2, rfl, s2, e2, r2⟩ | ⟨m, k2, rfl, s2, e2, r2⟩
        · rw [e1] at e2; cases e2
        · rw [e1] at e2; cases e2
          rw [ih (i + 1) es k' r1 r2]
theorem keyD_inj {shape : Nat → Bool} {a b : D} {k : TK} (h1 : keyD shape a = some k) (h2 : keyD shape b = some k) : a = b := by
  cases a with
  | tup ds => cases b with
    | tup es =>
      cases ds with
      | nil => cases h1
      | cons d ds => cases es with
        | nil => cases h2
        | cons e es => rw [keyI_inj 0 _ _ k h1 h2]
    | _ => cases h2
  | _ => cases h1
def keyed (shape : Nat → Bool) (ds : List D) : Bool := ds.all fun d => (keyD shape d).isSome
def dSortedTup (shape : Nat → Bool) (d : D) : Option T := d.lst?.bind fun xs => if keyed shape xs = true then some (.fl (sortT (ltD shape) xs)) else none
/-- a value and what it stands for, in the real heap -/
def Stands (K : PySem.W.Frag) (F : Hp) (p : D × V) (u : Value) : Prop := rep K F p.1 p.2 ∧ RelV p.2 u
theorem paired_perm {α β : Type} {R : α → β → Prop} {us us' : List β} (p : us'.Perm us) : ∀ {xs : List α}, Paired R xs us → ∃ xs', xs'.Perm xs ∧ Paired R xs' us' := by
  induction p with
  | nil => intro xs h; exact ⟨xs, .refl _, h⟩
  | cons b _ ih =>
    intro xs h
    cases h with
    | cons r t => obtain ⟨ys, q, s⟩ := ih t; exact ⟨_ :: ys, q.cons _, .cons r s⟩
  | swap a b l =>
    intro xs h
    cases h with
    | cons r t => cases t with
      | cons r2 t => exact ⟨_ :: _ :: _, .swap .., .cons r2 (.cons r t)⟩
  | trans _ _ ih1 ih2 =>
    intro xs h
    obtain ⟨ys, q, s⟩ := ih2 h
    obtain ⟨zs, q2, s2⟩ := ih1 s
    exact ⟨zs, q2.trans q, s2⟩
theorem stands_of {K : PySem.W.Frag} {F : Hp} : ∀ {ds : List D} {vs : List V} {us : List Value}, reps K F ds vs → Vals vs us → Paired (Stands K F) (ds.zip vs) us
  | [], vs, us, h, r => by
    rw [show vs = [] from h] at r
    cases r; exact .nil
  | d :: ds, vs, us, h, r => by
    obtain ⟨w, ws, rfl, a, t⟩ := h
    cases r with
    | cons r1 r2 => exact .cons ⟨a, r1⟩ (stands_of t r2)
theorem of_stands {K : PySem.W.Frag} {F : Hp} : ∀ {xs : List (D × V)} {us : List Value}, Paired (Stands K F) xs us → reps K F (xs.map (·.1)) (xs.map (·.2)) ∧ Vals (xs.map (·.2)) us
  | [], us, h => by cases h; exact ⟨rfl, .nil⟩
  | x :: xs, us, h => by
    cases h with
    | cons r t =>
      obtain ⟨h1, h2⟩ := of_stands t
      exact ⟨reps_cons r.1 h1, .cons r.2 h2⟩
section
variable {X : Cx} {pins : List (Addr × Obj)} {σ : L2.St} {H F : Hp} {s : Shared}
theorem items_key {K : PySem.W.Frag} {shape : Nat → Bool} : ∀ (ds : List D) (vs : List V) (us : List Value) (i : Nat) (k : TK), reps K F ds vs → Vals vs us → keyI shape i ds = some k → tupItems shape i us = some k
  | [], vs, us, i, k, h, r, e => by
    rw [show vs = [] from h] at r
    cases r
    simpa [keyI, tupItems] using e
  | d :: ds, vs, us, i, k, h, r, e => by
    obtain ⟨w, ws, rfl, a, t⟩ := h
    cases r with
    | cons r1 r2 =>
      cases d with
      | int n =>
        obtain rfl : w = .int n := a
        obtain ⟨tk, rfl⟩ := r1
        simp only [keyI] at e
        split at e
        · cases e
        · rename_i hs
          obtain ⟨k', e1, rfl⟩ := Option.map_eq_some_iff.mp e
          simp only [tupItems]
          rw [if_neg hs, items_key ds ws _ (i + 1) k' t r2 e1]; rfl
      | str z =>
        obtain rfl : w = .str (tx z) := a
        obtain ⟨tk, rfl⟩ := r1
        simp only [keyI] at e
        split at e
        · rename_i hs
          obtain ⟨k', e1, rfl⟩ := Option.map_eq_some_iff.mp e
          simp only [tupItems]
          rw [if_pos hs, items_key ds ws _ (i + 1) k' t r2 e1]
          simp [tx]
        · cases e
      | _ => simp only [keyI] at e; cases e
/-- a keyed tuple in the real heap -/
theorem key_real (I : Inv X pins σ H s) (sub : Sub F H) {shape : Nat → Bool} {d : D} {v : V} {u : Value} {k : TK} (h : Stands X.K F (d, v) u) (e : keyD shape d = some k) : G.tupKeyC s.heap shape u = some k ∧ ∃ f, TupOf s.heap shape u f := by
  cases d with
  | tup ds =>
    obtain ⟨⟨p, vs, e1, a, r⟩, ru⟩ := h
    have e1 : v = .ref p := e1
    subst e1
    obtain rfl : u = Value.ref p := ru
    obtain ⟨_, its, rv, o, ho, hc, n, hd⟩ := I.hok p _ (sub _ _ a)
    cases ds with
    | nil => cases e
    | cons d ds =>
      have e2 : keyI shape 0 (d :: ds) = some k := e
      have ki := items_key _ _ _ 0 k r rv e2
      refine ⟨?_, ?_⟩
      · unfold G.tupKeyC
        have hT : G.isTupObj s.heap (.ref p) = true := by unfold G.isTupObj; simp only [ho]; rw [hc]; rfl
        rw [if_pos hT]
        unfold tupKey
        simp only [ho, hd]
        simpa using ki
      · obtain ⟨w, ws, rfl, ra, rt⟩ := r
        cases rv with
        | cons r1 r2 =>
          rename_i u0 us0
          refine ⟨u0, p, o, _, n, rfl, ho, hc, hd, by simp, fun hs => ?_, fun hs => ?_⟩
          · cases d with
            | int m => obtain rfl : w = .int m := ra; obtain ⟨t, rfl⟩ := r1; exact ⟨m, t, rfl⟩
            | str z => simp only [keyI] at e2; rw [if_neg (by rw [hs]; simp)] at e2; cases e2
            | _ => simp only [keyI] at e2; cases e2
          · cases d with
            | str z => obtain rfl : w = .str (tx z) := ra; obtain ⟨t, rfl⟩ := r1; exact ⟨_, t, rfl⟩
            | int m => simp only [keyI] at e2; rw [if_pos hs] at e2; cases e2
            | _ => simp only [keyI] at e2; cases e2
  | _ => cases e
theorem tups_real (I : Inv X pins σ H s) (sub : Sub F H) {shape : Nat → Bool} : ∀ {xs : List (D × V)} {us : List Value}, Paired (Stands X.K F) xs us → (∀ x ∈ xs, ∃ k, keyD shape x.1 = some k) → ∃ fs, TupsOf s.heap shape us fs
  | [], us, h, _ => by cases h; exact ⟨[], .nil⟩
  | x :: xs, us, h, e => by
    cases h with
    | cons r t =>
      obtain ⟨k, hk⟩ := e x List.mem_cons_self
      obtain ⟨_, f, hf⟩ := key_real I sub r hk
      obtain ⟨fs, hfs⟩ := tups_real I sub t fun y hy => e y (List.mem_cons_of_mem _ hy)
      exact ⟨f :: fs, .cons hf hfs⟩
end

theorem insT_upP {α : Type} {lt : α → α → Bool} {P : α → Prop} (tot : ∀ a b, P a → P b → lt a b = true → lt b a = false) (tr : ∀ a b c, P a → P b → P c → lt b a = false → lt c b = false → lt c a = false) (x : α) (px : P x) : ∀ l, (∀ y ∈ l, P y) → Up lt l → Up lt (insT lt x l)
  | [], _, _ => List.pairwise_singleton ..
  | y :: ys, hp, h => by
    obtain ⟨h1, h2⟩ := List.pairwise_cons.mp h
    unfold insT
    split
    · rename_i hl
      refine List.pairwise_cons.mpr ⟨fun z hz => ?_, insT_upP tot tr x px ys (fun z hz => hp z (List.mem_cons_of_mem _ hz)) h2⟩
      rcases (mem_insT lt).mp hz with rfl | hz
      · exact tot _ _ (hp y List.mem_cons_self) px hl
      · exact h1 z hz
    · rename_i hl
      have hl : lt y x = false := by simpa using hl
      refine List.pairwise_cons.mpr ⟨fun z hz => ?_, h⟩
      rcases List.mem_cons.mp hz with rfl | hz
      · exact hl
      · exact tr _ _ _ px (hp y List.mem_cons_self) (hp z (List.mem_cons_of_mem _ hz)) hl (h1 z hz)
theorem sortT_upP {α : Type} {lt : α → α → Bool} {P : α → Prop} (tot : ∀ a b, P a → P b → lt a b = true → lt b a = false) (tr : ∀ a b c, P a → P b → P c → lt b a = false → lt c b = false → lt c a = false) : ∀ l, (∀ y ∈ l, P y) → Up lt (sortT lt l)
  | [], _ => List.Pairwise.nil
  | x :: xs, hp => insT_upP tot tr x (hp x List.mem_cons_self) _ (fun y hy => hp y (List.mem_cons_of_mem _ ((sortT_perm lt xs).mem_iff.mp hy))) (sortT_upP tot tr xs fun y hy => hp y (List.mem_cons_of_mem _ hy))
theorem ltD_key {shape : Nat → Bool} {a b : D} {x y : TK} (h1 : keyD shape a = some x) (h2 : keyD shape b = some y) : ltD shape a b = tupO.blt x y := by
  unfold ltD; rw [h1, h2]
theorem ltD_up {shape : Nat → Bool} (l : List D) (h : ∀ d ∈ l, ∃ k, keyD shape d = some k) : Up (ltD shape) (sortT (ltD shape) l) := by
  refine sortT_upP (P := fun d => ∃ k, keyD shape d = some k) (fun a b ⟨x, hx⟩ ⟨y, hy⟩ q => ?_) (fun a b c ⟨x, hx⟩ ⟨y, hy⟩ ⟨z, hz⟩ q r => ?_) l h
  · rw [ltD_key hx hy] at q
    rw [ltD_key hy hx]
    exact KeyOrd.klt_asymm (O := tupO) q
  · rw [ltD_key hy hx] at q
    rw [ltD_key hz hy] at r
    rw [ltD_key hz hx]
    cases e : tupO.blt z x with
    | false => rfl
    | true =>
      rcases tupO.negTrans z y x e with h | h
      · rw [r] at h; cases h
      · rw [q] at h; cases h
def rSortTup (K : PySem.W.Frag) (shape : Nat → Bool) : List V → Hp → VK → Prop := fun xs H Q => ∃ (a : Addr) (F : Hp) (ds : List D) (vs : List V), xs = [.ref a] ∧ Sub F H ∧ SqL K H a vs ∧ reps K F ds vs ∧ keyed shape ds = true ∧
  ∀ vs' p, reps K F (sortT (ltD shape) ds) vs' → H p = none → Q (.ref p) (upd H p (.lst vs'))
theorem cr_sortTup {X : Cx} (shape : Nat → Bool) : CallR X (.builtin "sorted") (rSortTup X.K shape) := by
  rintro pins s σ H xs us Q I r ⟨a, F, ds, vs, rfl, sub, hs, rp, hk, q⟩
  obtain ⟨its, rv, hl, hz⟩ := I.list hs
  rw [Vals.ref1 r]
  have st0 := stands_of rp rv
  have hkey : ∀ d ∈ ds, ∃ k, keyD shape d = some k := fun d hd => Option.isSome_iff_exists.mp (List.all_eq_true.mp hk d hd)
  have hkz : ∀ x ∈ ds.zip vs, ∃ k, keyD shape x.1 = some k := fun x hx => hkey x.1 (List.of_mem_zip hx).1
  obtain ⟨fs, ht⟩ := tups_real I sub st0 hkz
  have hlen : its.length ≤ sizeLine := by rw [← rv.length]; exact hz
  have at_ : ∀ {xs : List (D × V)} {us : List Value}, Paired (Stands X.K F) xs us → ∀ u ∈ us, ∃ x ∈ xs, Stands X.K F x u := by
    intro xs us h
    induction h with
    | nil => intro u hu; cases hu
    | cons r t ih =>
      intro u hu
      rcases List.mem_cons.mp hu with rfl | hu
      · exact ⟨_, List.mem_cons_self, r⟩
      · obtain ⟨x, hx, hs⟩ := ih u hu
        exact ⟨x, List.mem_cons_of_mem _ hx, hs⟩
  refine G.sorted_tups hl.isList ht (fun v hv => ?_) hlen fun st' hp hsort _ => ?_
  · obtain ⟨x, hx, hs⟩ := at_ st0 v hv
    obtain ⟨k, hk⟩ := hkz x hx
    exact ⟨k, (key_real I sub hs hk).1⟩
  · have hp' : ((arrOf st').map (·.2)).toList.Perm its := by
      have h1 := (Array.perm_iff_toList_perm.mp hp).map (·.2)
      rw [pairsOf_toList] at h1
      have h2 : (its.zip its).map (·.2) = its := by
        have : ∀ l : List Value, (l.zip l).map (·.2) = l := fun l => by
          induction l with
          | nil => rfl
          | cons a l ih => rw [List.zip_cons_cons, List.map_cons, ih]
        exact this its
      rw [h2] at h1
      simpa using h1
    obtain ⟨xs', pp, ps⟩ := paired_perm hp' st0
    obtain ⟨rp', rv'⟩ := of_stands ps
    have hfst : (ds.zip vs).map (·.1) = ds := by
      have h := reps_len rp
      exact List.map_fst_zip (Nat.le_of_eq h)
    have pd : (xs'.map (·.1)).Perm ds := by have := pp.map (·.1); rwa [hfst] at this
    have hdiag : ∀ p ∈ (arrOf st').toList, p.1 = p.2 := fun p hpm => by
      have h1 := (Array.perm_iff_toList_perm.mp hp).mem_iff.mp hpm
      rw [pairsOf_toList] at h1
      have : ∀ (l : List Value) (p : Value × Value), p ∈ l.zip l → p.1 = p.2 := fun l p h => by
        induction l with
        | nil => simp at h
        | cons a l ih =>
          rw [List.zip_cons_cons] at h
          rcases List.mem_cons.mp h with rfl | h
          · rfl
          · exact ih h
      exact this its p h1
    have hlen' : xs'.length = (arrOf st').size := by
      have := Paired.length ps
      simpa using this
    have hsz : (pairsOf its).size = (arrOf st').size := (hp.size_eq).symm
    have up' : Up (ltD shape) (xs'.map (·.1)) := by
      refine List.pairwise_iff_getElem.mpr fun i j hi hj hij => ?_
      rw [List.length_map] at hi hj
      have key_at : ∀ (n : Nat) (hn : n < xs'.length), ∃ k, keyD shape xs'[n].1 = some k ∧ KK (G.tupKindC s.heap shape) (arrOf st') n = k := fun n hn => by
        have hm : xs'[n] ∈ xs' := List.getElem_mem hn
        obtain ⟨k, hk⟩ := hkz _ (pp.mem_iff.mp hm)
        have hn2 : n < (arrOf st').size := by rw [← hlen']; exact hn
        have get : ∀ {xs : List (D × V)} {us : List Value}, Paired (Stands X.K F) xs us → ∀ (n : Nat) (h1 : n < xs.length) (h2 : n < us.length), Stands X.K F xs[n] us[n] := by
          intro xs us h
          induction h with
          | nil => intro n h1; cases h1
          | cons r t ih =>
            intro n h1 h2
            cases n with
            | zero => exact r
            | succ n => exact ih n (by simpa using h1) (by simpa using h2)
        have hs := get ps n hn (by simpa using hn2)
        have hu : ((arrOf st').map (·.2)).toList[n]'(by simpa using hn2) = (arrOf st')[n].1 := by
          have := hdiag (arrOf st')[n] (by simp)
          simp [this]
        rw [hu] at hs
        refine ⟨k, hk, ?_⟩
        unfold KK
        rw [Array.getElem?_eq_getElem hn2]
        show ((G.tupKeyC s.heap shape (arrOf st')[n].1).getD []) = k
        rw [(key_real I sub (d := xs'[n].1) (v := xs'[n].2) hs hk).1]; rfl
      obtain ⟨k1, e1, g1⟩ := key_at i hi
      obtain ⟨k2, e2, g2⟩ := key_at j hj
      rw [List.getElem_map, List.getElem_map, ltD_key e2 e1]
      have := hsort i j (Nat.le_of_lt hij) (by rw [hsz, ← hlen']; exact hj)
      rw [g1, g2] at this
      exact this
    have eds : xs'.map (·.1) = sortT (ltD shape) ds := by
      refine List.Perm.eq_of_pairwise (le := fun a b => ltD shape b a = false) (fun a b ha hb h1 h2 => ?_) up' (ltD_up ds hkey) (pd.trans (sortT_perm _ ds).symm)
      obtain ⟨k1, e1⟩ := hkey a (pd.mem_iff.mp ha)
      obtain ⟨k2, e2⟩ := hkey b ((sortT_perm _ ds).mem_iff.mp hb)
      rw [ltD_key e2 e1] at h1
      rw [ltD_key e1 e2] at h2
      have := tupO.total k1 k2 h2 h1
      subst this
      exact keyD_inj e1 e2
    obtain ⟨ep, he'⟩ := sortedAll_at s.heap its ((arrOf st').map (·.2))
    have hlv : (xs'.map (·.2)).length ≤ sizeLine := by
      rw [List.length_map, hlen', ← hsz, pairsOf_size]; exact hlen
    exact ⟨.ref _, upd H (s.heap.objs.size + 1) (.lst (xs'.map (·.2))), I.laid (t' := s.toks) (fun _ _ => sortedAll_old) (Nat.le_succ _) ⟨hlv, ((arrOf st').map (·.2)).toList, ep, rv', he'⟩, rfl, q _ _ (eds ▸ rp') (I.hok.fresh (Nat.le_succ _))⟩
section
variable {G : Gb} {C : Ct} {b : Bool} {e : Expr} {pos p : Pos}
theorem so_sortedTup (shape : Nat → Bool) {m : M D} (hx : Blt G C "sorted") (h : OP G C b e m) (hl : Pln e) : SO G C b (.Call (.Name "sorted" p) [e] [] pos) (mUn (dSortedTup shape) m) :=
  so_b1 (r := rSortTup G.K shape) (pc_b (fun X ok => by obtain rfl := ok.g; exact cr_sortTup shape) hx rfl (by decide) (by decide) hl fun _ => rfl) (fun F H d v t Q s hx e k => by
    obtain ⟨xs, e1, e2⟩ := Option.bind_eq_some_iff.mp e
    split at e2
    · rename_i hk
      cases e2
      obtain ⟨p, vs, rfl, a, r⟩ := lst_vw s hx e1
      exact ⟨p, F, xs, vs, rfl, s, a, r, hk, fun vs' p hr hp => k _ _ _ (.lst hp hr)⟩
    · cases e2) h hl
end
end PM
set_option Elab.async false
set_option linter.all false
set_option maxRecDepth 100000
set_option maxHeartbeats 2000000
set_option autoImplicit false
namespace PM
open PySem PySem.Spec PyProof.Rows L2
/-! ### reading a mirror -/
/-- sealed: a unifier that looks for a binder must not run the program -/
structure Wp {α : Type} (r : R α) (P : α → Sl → Prop) : Prop where
  go : wp r P
theorem Wp_eq {α : Type} {r : R α} {P : α → Sl → Prop} : Wp r P = wp r P := propext ⟨fun h => h.go, fun h => ⟨h⟩⟩
theorem Wp_fun {α β : Type} {f : α → Sl → R β} {P : β → Sl → Prop} : (fun a s => Wp (f a s) P) = fun a s => wp (f a s) P := funext fun _ => funext fun _ => Wp_eq
@[simp] theorem wpS_bind {α β : Type} {r : R α} {f : α → Sl → R β} {P : β → Sl → Prop} : Wp (r.bind f) P = Wp r (fun a s => Wp (f a s) P) := by
  rw [Wp_eq, Wp_eq, Wp_fun]; exact propext wp_bind
@[simp] theorem wpS_ok {α : Type} {a : α} {Γ : Sl} {P : α → Sl → Prop} : Wp (.ok a Γ) P = P a Γ := Wp_eq
@[simp] theorem wpS_stuck {α : Type} {P : α → Sl → Prop} : Wp (R.stuck : R α) P = False := Wp_eq
@[simp] theorem wpS_ite {α : Type} {c : Prop} [Decidable c] {m n : M α} {Γ : Sl} {P : α → Sl → Prop} : Wp ((if c then m else n) Γ) P = if c then Wp (m Γ) P else Wp (n Γ) P := by
  by_cases h : c
  · rw [if_pos h, if_pos h]
  · rw [if_neg h, if_neg h]
@[simp] theorem wpS_optif {α : Type} {c : Prop} [Decidable c] {a : α} {Γ : Sl} {P : α → Sl → Prop} : Wp (opt (if c then some a else none) Γ) P = (c ∧ P a Γ) := by
  rw [Wp_eq]
  by_cases h : c
  · rw [if_pos h]; exact propext ⟨fun q => ⟨h, q⟩, fun q => q.2⟩
  · rw [if_neg h]; exact propext ⟨fun q => q.elim, fun q => h q.1⟩
@[simp] theorem wpS_optifn {α : Type} {c : Prop} [Decidable c] {a : α} {Γ : Sl} {P : α → Sl → Prop} : Wp (opt (if c then none else some a) Γ) P = (¬ c ∧ P a Γ) := by
  rw [Wp_eq]
  by_cases h : c
  · rw [if_pos h]; exact propext ⟨fun q => q.elim, fun q => q.1 h⟩
  · rw [if_neg h]; exact propext ⟨fun q => ⟨h, q⟩, fun q => q.2⟩
@[simp] theorem wpS_optmap {α β : Type} {f : α → β} {o : Option α} {Γ : Sl} {P : β → Sl → Prop} : Wp (opt (o.map f) Γ) P = Wp (opt o Γ) (fun a s => P (f a) s) := by
  rw [Wp_eq, Wp_eq]; cases o <;> rfl
theorem wpS_opt {α : Type} {o : Option α} {Γ : Sl} {P : α → Sl → Prop} : Wp (opt o Γ) P = ∃ a, o = some a ∧ P a Γ := by
  rw [Wp_eq]
  cases o with
  | none => exact propext ⟨fun q => q.elim, fun ⟨_, h, _⟩ => by cases h⟩
  | some a => exact propext ⟨fun q => ⟨a, rfl, q⟩, fun ⟨_, h, q⟩ => by cases h; exact q⟩
/-- a call's answer -/
structure wpc (m : M Out) (n : Nat) (ts : List T) (P : T → Sl → Prop) : Prop where
  go : ∃ t Γ, outOf (m (start' n ts)) = some (t, Γ) ∧ P t Γ
def outP (P : T → Sl → Prop) : Out → Sl → Prop
  | .rt t, Γ => P t Γ
  | .nx, Γ => P (.sh .non) Γ
  | _, _ => False
@[simp] theorem outP_rt {P : T → Sl → Prop} {t : T} {Γ : Sl} : outP P (.rt t) Γ = P t Γ := rfl
@[simp] theorem outP_nx {P : T → Sl → Prop} {Γ : Sl} : outP P .nx Γ = P (.sh .non) Γ := rfl
theorem wpc_of {m : M Out} {n : Nat} {ts : List T} {P : T → Sl → Prop} (h : Wp (m (start' n ts)) (outP P)) : wpc m n ts P := ⟨by
  have h := h.go
  cases e : m (start' n ts) with
  | stuck => rw [e] at h; exact h.elim
  | ok o Γ =>
    rw [e] at h
    cases o with
    | rt t => exact ⟨_, _, rfl, h⟩
    | nx => exact ⟨_, _, rfl, h⟩
    | bk => exact h.elim
    | ct => exact h.elim⟩
theorem wpc_mono {m : M Out} {n : Nat} {ts : List T} {P Q : T → Sl → Prop} (h : wpc m n ts P) (k : ∀ t Γ, P t Γ → Q t Γ) : wpc m n ts Q := by
  obtain ⟨t, Γ, e, q⟩ := h.go
  exact ⟨t, Γ, e, k _ _ q⟩
@[simp] theorem wpS_call {n : Nat} {m : M Out} {js : List (Option Nat)} {ts : List T} {Γ : Sl} {P : T → Sl → Prop} : Wp (callM n m js ts Γ) P = wpc m n ts (fun t Γc => P t (back js Γc Γ)) := by
  rw [Wp_eq]
  unfold callM
  refine propext ⟨fun h => ?_, fun h => ?_⟩
  · cases e : outOf (m (start' n ts)) with
    | none => rw [e] at h; exact h.elim
    | some p => rw [e] at h; exact ⟨_, _, e, h⟩
  · obtain ⟨t, Γ1, e, q⟩ := h.go
    rw [e]; exact q
@[simp] theorem mPure_ap {α : Type} {a : α} {Γ : Sl} : (M.pure a) Γ = .ok a Γ := rfl
@[simp] theorem fz_ap (m : M T) (Γ : Sl) : fz m Γ = (m Γ).bind fun t Γ1 => opt t.d? Γ1 := rfl
@[simp] theorem shM_ap (m : M D) (Γ : Sl) : shM m Γ = (m Γ).bind fun d Γ1 => .ok (.sh d) Γ1 := rfl
@[simp] theorem argsOf_nil (Γ : Sl) : argsOf [] [] Γ = some [] := rfl
@[simp] theorem argsOf_val (js : List (Option Nat)) (d : D) (ds : List D) (Γ : Sl) : argsOf (none :: js) (d :: ds) Γ = (argsOf js ds Γ).map (T.sh d :: ·) := rfl
@[simp] theorem argsOf_lent (js : List (Option Nat)) (j : Nat) (ds : List D) (Γ : Sl) : argsOf (some j :: js) ds Γ = match Γ[j]? with
    | some (some t) => (argsOf js ds Γ).map (t :: ·)
    | _ => none := by
  cases ds with
  | nil => rfl
  | cons d ds => rfl
@[simp] theorem back_nil (Γc Γ : Sl) : back [] Γc Γ = Γ := rfl
@[simp] theorem back_none (js : List (Option Nat)) (Γc Γ : Sl) : back (none :: js) Γc Γ = back js Γc.tail Γ := rfl
@[simp] theorem back_some (js : List (Option Nat)) (j : Nat) (Γc Γ : Sl) : back (some j :: js) Γc Γ = back js Γc.tail (Γ.set j (Γc.head?.getD none)) := rfl
@[simp] theorem mVar_ap (i : Nat) (Γ : Sl) : mVar i Γ = match Γ[i]? with
  | some (some (.sh d)) => .ok d Γ
  | _ => .stuck := rfl
@[simp] theorem mVw_ap (i : Nat) (Γ : Sl) : mVw i Γ = match Γ[i]? with
  | some (some t) => opt t.v? Γ
  | _ => .stuck := rfl
@[simp] theorem mFz_ap (i : Nat) (Γ : Sl) : mFz i Γ = match Γ[i]? with
  | some (some t) => (match t.d? with
    | some d => .ok d (Γ.set i (some (.sh d)))
    | none => .stuck)
  | _ => .stuck := rfl
@[simp] theorem mMv_ap (i : Nat) (Γ : Sl) : mMv i Γ = match Γ[i]? with
  | some (some t) => .ok t (Γ.set i none)
  | _ => .stuck := rfl
@[simp] theorem look_ap (i : Nat) (π : List Stp) (Γ : Sl) : look i π Γ = match Γ[i]? with
  | some (some t) => t.at π
  | _ => none := rfl
@[simp] theorem putS_ap (i : Nat) (π : List Stp) (r : T) (Γ : Sl) : putS i π r Γ = match Γ[i]? with
  | some (some t) => Γ.set i (some (t.put π r))
  | _ => Γ := rfl
@[simp] theorem mAt_ap (i : Nat) (π : List Stp) (Γ : Sl) : mAt i π Γ = match look i π Γ with
  | some (.sh d) => .ok d Γ
  | _ => .stuck := rfl
@[simp] theorem mVwAt_ap (i : Nat) (π : List Stp) (Γ : Sl) : mVwAt i π Γ = match look i π Γ with
  | some t => opt t.v? Γ
  | _ => .stuck := rfl
@[simp] theorem at_nil (t : T) : t.at [] = some t := rfl
@[simp] theorem at_ix (ts : List T) (n : Nat) (π : List Stp) : (T.bx ts).at (.ix n :: π) = (ts[n]?).bind (·.at π) := rfl
@[simp] theorem put_nil (t r : T) : t.put [] r = r := by unfold T.put; rfl
@[simp] theorem put_ix (ts : List T) (n : Nat) (r : T) : (T.bx ts).put [.ix n] r = match ts[n]? with
  | some _ => .bx (ts.set n r)
  | none => .bx ts := by
  unfold T.put
  show (match ts[n]? with | some u => (T.bx ts).put1 (.ix n) (u.put [] r) | none => _) = _
  cases ts[n]? with
  | none => rfl
  | some u => show (T.bx ts).put1 (.ix n) (u.put [] r) = _; rw [put_nil]; rfl
@[simp] theorem sizeT_fl (ds : List D) : sizeT (.fl ds) = some ds.length := rfl
@[simp] theorem sizeT_bx (ds : List T) : sizeT (.bx ds) = some ds.length := rfl
@[simp] theorem setAt_fl (ds : List D) (j : Nat) (d : D) : setAt (.fl ds) j d = .fl (ds.set j d) := rfl
@[simp] theorem setAt_bx (ds : List T) (j : Nat) (d : D) : setAt (.bx ds) j d = .bx (ds.set j (.sh d)) := rfl
@[simp] theorem setS_ap (i : Nat) (t : T) (Γ : Sl) : setS i t Γ = if i < Γ.length then some (Γ.set i (some t)) else none := rfl
@[simp] theorem tgN_ap (i : Nat) (d : D) (Γ : Sl) : tgN i d Γ = setS i (.sh d) Γ := rfl
@[simp] theorem setM_nil (Γ : Sl) : setM [] [] Γ = some Γ := rfl
@[simp] theorem setM_cons (i : Nat) (is : List Nat) (t : T) (ts : List T) (Γ : Sl) : setM (i :: is) (t :: ts) Γ = (setS i t Γ).bind (setM is ts) := rfl
@[simp] theorem mLent_ap (i : Nat) (n : M (List D)) (Γ : Sl) : mLent i n Γ = match Γ[i]? with
  | some (some _) => n Γ
  | _ => .stuck := rfl
@[simp] theorem mMut_ap (i : Nat) (π : List Stp) (f : List D → List D → Option (List D × D)) (ma : M (List D)) (Γ : Sl) : mMut i π f ma Γ = match look i π Γ with
  | some (.fl _) => (ma Γ).bind fun args Γ1 => (match look i π Γ1 with
    | some (.fl ds) => (match f ds args with
      | some (ds', d) => .ok (.sh d) (putS i π (.fl ds') Γ1)
      | none => .stuck)
    | _ => .stuck)
  | _ => .stuck := rfl
@[simp] theorem dLen_lst (xs : List D) : dLen (.lst xs) = some (.sh (.int xs.length)) := rfl
@[simp] theorem dInt_int (i : Int) : dInt (.int i) = some (.sh (.int i)) := rfl
@[simp] theorem dAdd_int (i j : Int) : dAdd (.int i) (.int j) = some (.sh (.int (i + j))) := rfl
@[simp] theorem dSub_int (i j : Int) : dSub (.int i) (.int j) = some (.sh (.int (i - j))) := rfl
@[simp] theorem dMul_int (i j : Int) : dMul (.int i) (.int j) = if MulOk i j then some (.sh (.int (i * j))) else none := rfl
@[simp] theorem dMod_int (i j : Int) : dMod (.int i) (.int j) = if j ≠ 0 then some (.sh (.int (i.fmod j))) else none := rfl
@[simp] theorem dDiv_int (i j : Int) : dDiv (.int i) (.int j) = if j ≠ 0 ∧ j.natAbs.log2 < 9000 then some (.sh (.int (i.fdiv j))) else none := rfl
@[simp] theorem dPow_int (i j : Int) : dPow (.int i) (.int j) = if 0 ≤ j ∧ (Builtin.Int.intBits i : Int) * j ≤ 2 ^ 27 then some (.sh (.int (i ^ j.toNat))) else none := rfl
@[simp] theorem dGt_int (i j : Int) : dGt (.int i) (.int j) = some (decide (j < i)) := rfl
@[simp] theorem dLt_int (i j : Int) : dLt (.int i) (.int j) = some (decide (i < j)) := rfl
@[simp] theorem dLe_int (i j : Int) : dLe (.int i) (.int j) = some (decide (i ≤ j)) := rfl
@[simp] theorem dGe_int (i j : Int) : dGe (.int i) (.int j) = some (decide (j ≤ i)) := rfl
@[simp] theorem dEq_int (i j : Int) : dEq (.int i) (.int j) = some (decide (i = j)) := rfl
@[simp] theorem dEq_str (i j : Txt) : dEq (.str i) (.str j) = some (decide (i = j)) := rfl
@[simp] theorem dIx_lst (xs : List D) (i : Int) : dIx (.lst xs) (.int i) = (atI xs i).map .sh := rfl
@[simp] theorem dIx_frz (xs : List D) (i : Int) : dIx (.frz xs) (.int i) = (atI xs i).map .sh := rfl
@[simp] theorem dIx_tup (xs : List D) (i : Int) : dIx (.tup xs) (.int i) = (atI xs i).map .sh := rfl
/-! ### sizes of ints -/
theorem log_lt {n k : Nat} (h : n < 2 ^ k) (hk : 0 < k) : n.log2 < k := by
  by_cases h0 : n = 0
  · subst h0; simpa using hk
  · exact (Nat.log2_lt h0).mpr h
theorem mulOk_of {i j : Int} (h : i.natAbs < 2 ^ 4000) (k : j.natAbs < 2 ^ 4000) : MulOk i j := by
  have := log_lt h (by decide)
  have := log_lt k (by decide)
  unfold MulOk
  omega
theorem bits_le {i : Int} {k : Nat} (h : i.natAbs < 2 ^ k) : Builtin.Int.intBits i ≤ k := by
  unfold Builtin.Int.intBits
  split
  · exact Nat.zero_le _
  · rename_i h0
    have : i.natAbs ≠ 0 := by simpa using h0
    have := (Nat.log2_lt this).mpr h
    omega
theorem powOk_of {i : Int} (h : i.natAbs < 2 ^ 4000) : (Builtin.Int.intBits i : Int) * 3 ≤ 134217728 := by
  have := bits_le h
  omega
/-! ### loops -/
def goOn (N : Sl → Prop) (P : Out → Sl → Prop) : Out → Sl → Prop
  | .nx, Γ => N Γ
  | .ct, Γ => N Γ
  | .bk, Γ => P .nx Γ
  | .rt t, Γ => P (.rt t) Γ
@[simp] theorem goOn_nx {N : Sl → Prop} {P : Out → Sl → Prop} {Γ : Sl} : goOn N P .nx Γ = N Γ := rfl
@[simp] theorem goOn_ct {N : Sl → Prop} {P : Out → Sl → Prop} {Γ : Sl} : goOn N P .ct Γ = N Γ := rfl
@[simp] theorem goOn_bk {N : Sl → Prop} {P : Out → Sl → Prop} {Γ : Sl} : goOn N P .bk Γ = P .nx Γ := rfl
@[simp] theorem goOn_rt {N : Sl → Prop} {P : Out → Sl → Prop} {t : T} {Γ : Sl} : goOn N P (.rt t) Γ = P (.rt t) Γ := rfl
theorem for_spec0 {tg : D → Sl → Option Sl} {mb : M Out} {P : Out → Sl → Prop} : ∀ (ds : List D) (I : Nat → Sl → Prop) (Γ : Sl), I 0 Γ →
    (∀ i d Γ, ds[i]? = some d → I i Γ → ∃ Γ1, tg d Γ = some Γ1 ∧ wp (mb Γ1) (goOn (I (i + 1)) P)) → (∀ Γ, I ds.length Γ → P .nx Γ) → wp (forM tg mb ds Γ) P
  | [], I, Γ, h0, _, hd => hd Γ h0
  | d :: ds, I, Γ, h0, hs, hd => by
    obtain ⟨Γ1, e1, w1⟩ := hs 0 d Γ rfl h0
    rw [forM_cons, e1]
    show wp ((mb Γ1).bind _) P
    refine wp_bind.mpr ?_
    refine wp_mono w1 fun o Γ2 _ q => ?_
    have ih := fun (h : I 1 Γ2) => for_spec0 ds (fun i => I (i + 1)) Γ2 h (fun i d Γ e q => hs (i + 1) d Γ (by simpa using e) q) (fun Γ q => hd Γ (by simpa using q))
    cases o with
    | nx => exact ih q
    | ct => exact ih q
    | bk => exact q
    | rt t => exact q
theorem lc_spec0 {vs : List Nat} {tg : D → Sl → Option Sl} {mt : M Bool} {me : M D} : ∀ (ds : List D) (I : Nat → List D → Sl → Prop) (acc : List D) (Γ : Sl) (P : List D → Sl → Prop), I 0 acc Γ →
    (∀ i d acc Γ, ds[i]? = some d → I i acc Γ → ∃ Γ1, tg d (wipeS vs Γ) = some Γ1 ∧ wp (mt Γ1) (fun c Γ2 => if c = true then wp (me Γ2) (fun y Γ3 => I (i + 1) (acc ++ [y]) Γ3) else I (i + 1) acc Γ2)) →
    (∀ acc Γ, I ds.length acc Γ → P acc (wipeS vs Γ)) → wp (lcM vs tg mt me ds Γ) (fun ys Γ' => P (acc ++ ys) Γ')
  | [], I, acc, Γ, P, h0, _, hd => by
    rw [lcM_nil]
    show P (acc ++ []) _
    rw [List.append_nil]; exact hd acc Γ h0
  | d :: ds, I, acc, Γ, P, h0, hs, hd => by
    obtain ⟨Γ1, e1, w1⟩ := hs 0 d acc Γ rfl h0
    rw [lcM_cons, e1]
    show wp ((mt Γ1).bind _) _
    refine wp_bind.mpr ?_
    refine wp_mono w1 fun c Γ2 _ q => ?_
    cases c with
    | false =>
      exact lc_spec0 ds (fun i => I (i + 1)) acc Γ2 P q (fun i d acc Γ e q => hs (i + 1) d acc Γ (by simpa using e) q) (fun acc Γ q => hd acc Γ (by simpa using q))
    | true =>
      have q : wp (me Γ2) (fun y Γ3 => I 1 (acc ++ [y]) Γ3) := q
      show wp ((me Γ2).bind _) _
      refine wp_bind.mpr ?_
      refine wp_mono q fun y Γ3 _ q3 => ?_
      refine wp_bind.mpr ?_
      refine wp_mono (lc_spec0 ds (fun i => I (i + 1)) (acc ++ [y]) Γ3 P q3 (fun i d acc Γ e q => hs (i + 1) d acc Γ (by simpa using e) q) (fun acc Γ q => hd acc Γ (by simpa using q))) fun ys Γ4 _ q4 => ?_
      show P (acc ++ y :: ys) Γ4
      rw [List.append_assoc] at q4
      exact q4
theorem while_spec0 {mc : M Bool} {mb : M Out} {P : Out → Sl → Prop} (I : Nat → Sl → Prop) (hs : ∀ m Γ, I m Γ → wp (mc Γ) (fun c Γ1 => if c = true then wp (mb Γ1) (goOn (fun Γ2 => ∃ m', m' < m ∧ I m' Γ2) P) else P .nx Γ1)) : ∀ (m : Nat) (Γ : Sl), I m Γ → wp (mWhile mc mb Γ) P := by
  intro m
  induction m using Nat.strongRecOn with
  | ind m ih =>
    intro Γ h
    rw [mWhile_step]
    refine wp_bind.mpr ?_
    refine wp_mono (hs m Γ h) fun c Γ1 _ q => ?_
    cases c with
    | false => exact q
    | true =>
      have q : wp (mb Γ1) (goOn (fun Γ2 => ∃ m', m' < m ∧ I m' Γ2) P) := q
      show wp ((mb Γ1).bind _) P
      refine wp_bind.mpr ?_
      refine wp_mono q fun o Γ2 _ q2 => ?_
      cases o with
      | nx => obtain ⟨m', l, hI⟩ := q2; exact ih m' l Γ2 hI
      | ct => obtain ⟨m', l, hI⟩ := q2; exact ih m' l Γ2 hI
      | bk => exact q2
      | rt t => exact q2
theorem for_spec {tg : D → Sl → Option Sl} {mb : M Out} {P : Out → Sl → Prop} (ds : List D) (I : Nat → Sl → Prop) (Γ : Sl) (h0 : I 0 Γ)
    (hs : ∀ i d Γ, ds[i]? = some d → I i Γ → ∃ Γ1, tg d Γ = some Γ1 ∧ Wp (mb Γ1) (goOn (I (i + 1)) P)) (hd : ∀ Γ, I ds.length Γ → P .nx Γ) : Wp (forM tg mb ds Γ) P :=
  ⟨for_spec0 ds I Γ h0 (fun i d Γ e h => by obtain ⟨Γ1, e1, w⟩ := hs i d Γ e h; exact ⟨Γ1, e1, w.go⟩) hd⟩
theorem lc_spec {vs : List Nat} {tg : D → Sl → Option Sl} {mt : M Bool} {me : M D} (ds : List D) (I : Nat → List D → Sl → Prop) (acc : List D) (Γ : Sl) (P : List D → Sl → Prop) (h0 : I 0 acc Γ)
    (hs : ∀ i d acc Γ, ds[i]? = some d → I i acc Γ → ∃ Γ1, tg d (wipeS vs Γ) = some Γ1 ∧ Wp (mt Γ1) (fun c Γ2 => if c = true then Wp (me Γ2) (fun y Γ3 => I (i + 1) (acc ++ [y]) Γ3) else I (i + 1) acc Γ2))
    (hd : ∀ acc Γ, I ds.length acc Γ → P acc (wipeS vs Γ)) : Wp (lcM vs tg mt me ds Γ) (fun ys Γ' => P (acc ++ ys) Γ') :=
  ⟨lc_spec0 ds I acc Γ P h0 (fun i d acc Γ e h => by
    obtain ⟨Γ1, e1, w⟩ := hs i d acc Γ e h
    exact ⟨Γ1, e1, wp_mono w.go fun c Γ2 _ q => by
      cases c with
      | false => exact q
      | true => exact Wp.go q⟩) hd⟩
theorem lc0 {vs : List Nat} {tg : D → Sl → Option Sl} {mt : M Bool} {me : M D} {ds : List D} (I : Nat → List D → Sl → Prop) {Γ : Sl} {P : List D → Sl → Prop} (h0 : I 0 [] Γ)
    (hs : ∀ i d acc Γ, ds[i]? = some d → I i acc Γ → ∃ Γ1, tg d (wipeS vs Γ) = some Γ1 ∧ Wp (mt Γ1) (fun c Γ2 => if c = true then Wp (me Γ2) (fun y Γ3 => I (i + 1) (acc ++ [y]) Γ3) else I (i + 1) acc Γ2))
    (hd : ∀ acc Γ, I ds.length acc Γ → P acc (wipeS vs Γ)) : Wp (lcM vs tg mt me ds Γ) P :=
  lc_spec ds I [] Γ P h0 hs hd
theorem while_spec {mc : M Bool} {mb : M Out} {P : Out → Sl → Prop} (I : Nat → Sl → Prop) (hs : ∀ m Γ, I m Γ → Wp (mc Γ) (fun c Γ1 => if c = true then Wp (mb Γ1) (goOn (fun Γ2 => ∃ m', m' < m ∧ I m' Γ2) P) else P .nx Γ1)) (m : Nat) (Γ : Sl) (h : I m Γ) : Wp (mWhile mc mb Γ) P :=
  ⟨while_spec0 I (fun m Γ h => wp_mono (hs m Γ h).go fun c Γ1 _ q => by
    cases c with
    | false => exact q
    | true => exact Wp.go q) m Γ h⟩
@[simp] theorem wpS_for {tg : D → Sl → Option Sl} {mi : M (List D)} {mb : M Out} {Γ : Sl} {P : Out → Sl → Prop} : Wp (mFor mi tg mb Γ) P = Wp (mi Γ) (fun ds Γ1 => Wp (forM tg mb ds Γ1) P) := wpS_bind
@[simp] theorem dIx_str (s : Txt) (i : Int) : dIx (.str s) (.int i) = if s.length ≤ line then (atI s i).map fun c => .sh (.str [c]) else none := rfl
@[simp] theorem dLen_str (s : Txt) : dLen (.str s) = if s.length ≤ line then some (.sh (.int s.length)) else none := rfl
@[simp] theorem dAdd_str (s z : Txt) : dAdd (.str s) (.str z) = if s.length + z.length ≤ line then some (.sh (.str (s ++ z))) else none := rfl
@[simp] theorem dAdd_lst (s z : List D) : dAdd (.lst s) (.lst z) = if s.length + z.length ≤ line then some (.fl (s ++ z)) else none := rfl
theorem rng1_int (n : Int) (h : small62 n) : rng1 [.int n] = some (intsL 0 n.toNat) := if_pos h
theorem ints_get {lo : Int} {n i : Nat} {d : D} (h : (intsL lo n)[i]? = some d) : d = .int (lo + i) ∧ i < n := by
  unfold intsL at h
  rw [List.getElem?_map] at h
  obtain ⟨j, e1, rfl⟩ := Option.map_eq_some_iff.mp h
  obtain ⟨e2, e3⟩ := List.getElem?_eq_some_iff.mp e1
  simp at e2 e3
  subst e3
  exact ⟨rfl, e2⟩
theorem ints_len {lo : Int} {n : Nat} : (intsL lo n).length = n := by simp [intsL]
/-- slices -/
@[simp] theorem dSl_str (s : Txt) (lo hi : Option Int) : dSl (.str s) lo hi = if s.length ≤ line then some (.sh (.str (cutD s lo hi))) else none := rfl
@[simp] theorem dSl_lst (s : List D) (lo hi : Option Int) : dSl (.lst s) lo hi = some (.fl (cutD s lo hi)) := rfl
theorem sIx_pos {n d : Nat} {r : Int} (h0 : 0 ≤ r) : HT.sIx n d (some r) = min r.toNat n := by
  obtain ⟨k, rfl⟩ := Int.eq_ofNat_of_zero_le h0
  exact HT.sIx_nat ..
theorem cut_to {α : Type} (xs : List α) {r : Int} (h0 : 0 ≤ r) : cutD xs none (some r) = xs.take r.toNat := by
  unfold cutD
  rw [sIx_pos h0, HT.sIx_none]
  simp [List.take_eq_take_iff]
theorem cut_from {α : Type} (xs : List α) {r : Int} (h0 : 0 ≤ r) : cutD xs (some r) none = xs.drop r.toNat := by
  unfold cutD
  rw [sIx_pos h0, HT.sIx_none]
  apply List.ext_getElem?
  intro i
  simp [List.getElem?_take, List.getElem?_drop]
  split
  · by_cases h : r.toNat ≤ xs.length
    · rw [Nat.min_eq_left h]
    · rw [List.getElem?_eq_none (by omega), List.getElem?_eq_none (by omega)]
  · rw [List.getElem?_eq_none (by omega)]
@[simp] theorem mPart_ap (m : M D) (Γ : Sl) : mPart m Γ = match m Γ with
  | .ok (.int i) _ => some (some i)
  | _ => none := rfl
@[simp] theorem dSorted_str (s : Txt) : dSorted (.str s) = if s.length ≤ line then some (.fl ((sortTx (s.map fun c => [c])).map .str)) else none := rfl
@[simp] theorem dJoin_lst (s : Txt) (ss : List Txt) : dJoin (.str s) (.lst (ss.map .str)) = if (ss.map (·.length)).sum + ss.length * s.length ≤ line then some (.sh (.str (joinT s ss))) else none := by
  unfold dJoin
  simp [D.seq?]
end PM
set_option Elab.async false
set_option linter.all false
set_option maxRecDepth 100000
set_option maxHeartbeats 4000000
set_option autoImplicit false
namespace PM
open PySem PySem.Spec PyProof.Rows L2
/-! ### tables of sets, of up to 2048 slots -/
def Gm (m : Nat) : Prop := m = 7 ∨ m = 31 ∨ m = 127 ∨ m = 511 ∨ m = 2047
theorem lcg_lt (m : Nat) : ∀ k, lcgN m k < m + 1
  | 0 => Nat.succ_pos _
  | _ + 1 => Nat.mod_lt _ (Nat.succ_pos _)
theorem lcg_inj {m : Nat} (hm : Gm m) {a b : Nat} (h : lcgN m (a + 1) = lcgN m (b + 1)) : lcgN m a = lcgN m b := by
  have h : (lcgN m a * 5 + 1) % (m + 1) = (lcgN m b * 5 + 1) % (m + 1) := h
  have ha := lcg_lt m a
  have hb := lcg_lt m b
  generalize lcgN m a = x at h ha ⊢
  generalize lcgN m b = y at h hb ⊢
  rcases hm with e | e | e | e | e <;> subst e <;> omega
theorem lcg_back {m : Nat} (hm : Gm m) : ∀ (a d : Nat), lcgN m a = lcgN m (a + d) → lcgN m d = 0
  | 0, d, h => by rw [Nat.zero_add] at h; exact h.symm
  | a + 1, d, h => by
    have e : a + 1 + d = (a + d) + 1 := by omega
    rw [e] at h
    exact lcg_back hm a d (lcg_inj hm h)
theorem lcg_per {m p : Nat} (hp : lcgN m p = 0) : ∀ k, lcgN m (p + k) = lcgN m k
  | 0 => hp
  | k + 1 => by
    show (lcgN m (p + k) * 5 + 1) % (m + 1) = (lcgN m k * 5 + 1) % (m + 1)
    rw [lcg_per hp k]
theorem lcg_mul {m p : Nat} (hp : lcgN m p = 0) (r : Nat) : ∀ q, lcgN m (q * p + r) = lcgN m r
  | 0 => by rw [Nat.zero_mul, Nat.zero_add]
  | q + 1 => by
    have e : (q + 1) * p + r = p + (q * p + r) := by rw [Nat.add_mul]; omega
    rw [e, lcg_per hp, lcg_mul hp r q]
theorem lcg_facts {m : Nat} (hm : Gm m) : lcgN m (m + 1) = 0 ∧ lcgN m ((m + 1) / 2) ≠ 0 ∧ ∀ p, 0 < p → p < m + 1 → (m + 1) % p = 0 → ((m + 1) / 2) % p = 0 := by
  have key : ∀ n : Nat, ((List.range n).all fun p => p == 0 || (n % p != 0) || ((n / 2) % p == 0)) = true → ∀ p, 0 < p → p < n → n % p = 0 → (n / 2) % p = 0 := by
    intro n h p h0 hp hm
    have := List.all_eq_true.mp h p (List.mem_range.mpr hp)
    simp at this
    rcases this with (h1 | h1) | h1
    · omega
    · exact absurd hm h1
    · exact h1
  rcases hm with e | e | e | e | e <;> subst e
  · exact ⟨by decide +kernel, by decide +kernel, key 8 (by decide +kernel)⟩
  · exact ⟨by decide +kernel, by decide +kernel, key 32 (by decide +kernel)⟩
  · exact ⟨by decide +kernel, by decide +kernel, key 128 (by decide +kernel)⟩
  · exact ⟨by decide +kernel, by decide +kernel, key 512 (by decide +kernel)⟩
  · exact ⟨by decide +kernel, by decide +kernel, key 2048 (by decide +kernel)⟩
/-- no return before the round is full -/
theorem lcg_min {m : Nat} (hm : Gm m) {d : Nat} (h0 : 0 < d) (hd : d < m + 1) : lcgN m d ≠ 0 := by
  intro hz
  obtain ⟨f1, f2, f3⟩ := lcg_facts hm
  obtain ⟨p, hp1, hp2, hp3⟩ := st_least (p := fun d => 0 < d ∧ lcgN m d = 0) d ⟨h0, hz⟩
  have hdiv : (m + 1) % p = 0 := by
    refine Classical.byContradiction fun hr => ?_
    have hlt := Nat.mod_lt (m + 1) hp2.1
    have e : (m + 1) / p * p + (m + 1) % p = m + 1 := Nat.div_add_mod' (m + 1) p
    have := lcg_mul hp2.2 ((m + 1) % p) ((m + 1) / p)
    rw [e, f1] at this
    exact hp3 _ hlt ⟨by omega, this.symm⟩
  have hh := f3 p hp2.1 (by omega) hdiv
  have e : (m + 1) / 2 / p * p + 0 = (m + 1) / 2 := by
    have := Nat.div_add_mod' ((m + 1) / 2) p
    omega
  have := lcg_mul hp2.2 0 ((m + 1) / 2 / p)
  rw [e] at this
  exact f2 this
theorem lcg_onto {m : Nat} (hm : Gm m) {j : Nat} (hj : j ≤ m) : ∃ b, b ≤ m ∧ lcgN m b = j := by
  refine Classical.byContradiction fun hno => ?_
  have hnd : ((List.range (m + 1)).map (lcgN m)).Nodup := by
    rw [List.Nodup, List.pairwise_map]
    refine List.Pairwise.imp_of_mem ?_ (List.pairwise_lt_range (n := m + 1))
    intro a b _ hb hab e
    have hb := List.mem_range.mp hb
    have e2 : a + (b - a) = b := by omega
    rw [← e2] at e
    exact lcg_min hm (by omega) (by omega) (lcg_back hm a (b - a) e)
  have hle := nat_nodup_len _ ((List.range (m + 1)).erase j) hnd fun x hx => by
    obtain ⟨b, hb, rfl⟩ := List.mem_map.mp hx
    have hb := List.mem_range.mp hb
    refine (List.mem_erase_of_ne fun e => hno ⟨b, by omega, e⟩).mpr (List.mem_range.mpr (lcg_lt m b))
  rw [List.length_map, List.length_range, List.length_erase_of_mem (List.mem_range.mpr (by omega)), List.length_range] at hle
  omega
/-- from anywhere every slot is met within a round -/
theorem lcg_from {m : Nat} (hm : Gm m) {i j : Nat} (hi : i ≤ m) (hj : j ≤ m) : ∃ k, k ≤ m ∧ lcgI m i k = j := by
  obtain ⟨a, ha, rfl⟩ := lcg_onto hm hi
  obtain ⟨b, hb, rfl⟩ := lcg_onto hm hj
  by_cases c : a ≤ b
  · exact ⟨b - a, by omega, by rw [lcgN_add]; congr 1; omega⟩
  · refine ⟨m + 1 + b - a, by omega, ?_⟩
    rw [lcgN_add, show a + (m + 1 + b - a) = m + 1 + b by omega]
    exact lcg_per (lcg_facts hm).1 b
theorem g_meets {m : Nat} (hm : Gm m) (h : Int) {j : Nat} (hj : j ≤ m) : ∃ n, n ≤ m + 12 ∧ runI m (SetTable.bits h) n = j := by
  obtain ⟨k, hk, e⟩ := lcg_from hm (runI_le m (SetTable.bits h) 12) hj
  refine ⟨12 + k, by omega, ?_⟩
  rw [runI_tail (bits_lt h)]
  exact e
theorem g_nth {m : Nat} (hm : Gm m) (h : Int) {j : Nat} (hj : j ≤ m) : ∃ k, k < 10 * SetTable.turns m ∧ way m h k = j := by
  obtain ⟨n, hn, e⟩ := g_meets hm h hj
  obtain ⟨k, hk, e2⟩ := run_nth m (SetTable.bits h) n
  refine ⟨k, by unfold SetTable.turns; omega, ?_⟩
  show (nth m (runAt m (SetTable.bits h % (m + 1)) (SetTable.bits h)) k).j = j
  rw [e2]; exact e
theorem g_way {m : Nat} {h : Int} {k : Nat} : way m h k ≤ m := by
  have hi : SetTable.bits h % (m + 1) ≤ m := Nat.le_of_lt_succ (Nat.mod_lt _ (Nat.succ_pos _))
  have r := runEnd_bd hi
  have q := nth_in (m := m) k (runAt m (SetTable.bits h % (m + 1)) (SetTable.bits h)) (by simp only [runAt]; omega)
  exact Nat.le_trans (Nat.le_add_right _ _) q
/-- a clean table: every hash finds its slot -/
structure Tb (t : SetTable) (hs : List Int) : Prop where
  ris : Ris t.place.toList
  dm : t.dummies = #[]
  sz : t.place.size = hs.length
  gm : Gm t.mask
  bd : ∀ x ∈ t.place.toList, x ≤ t.mask
  far : ∀ (i : Nat) (h : Int) (j : Nat), hs[i]? = some h → t.place.toList[i]? = some j → ∃ k, way t.mask h k = j ∧ ∀ c, c < k → way t.mask h c ∈ t.place.toList
theorem g_odd {m : Nat} (h : Gm m) : m % 2 = 1 := by
  rcases h with e | e | e | e | e <;> subst e <;> rfl
theorem g_le {m : Nat} (h : Gm m) : m ≤ 2047 := by
  rcases h with e | e | e | e | e <;> omega
theorem Tb.first {t : SetTable} {hs : List Int} (T : Tb t hs) (hl : hs.length ≤ t.mask) (h : Int) : ∃ K, K < 10 * SetTable.turns t.mask ∧ way t.mask h K ∉ t.place.toList ∧ ∀ c, c < K → way t.mask h c ∈ t.place.toList := by
  obtain ⟨j, hj, hn⟩ := st_missing t.place.toList (t.mask + 1) (by rw [Array.length_toList, T.sz]; omega)
  obtain ⟨k, hk, e⟩ := g_nth T.gm h (show j ≤ t.mask by omega)
  obtain ⟨K, h1, h2, h3⟩ := st_least (p := fun k => way t.mask h k ∉ t.place.toList) k (by show way t.mask h k ∉ _; rw [e]; exact hn)
  exact ⟨K, by omega, h2, fun c hc => Classical.byContradiction fun z => h3 c hc z⟩
theorem Tb.before {t : SetTable} {hs : List Int} (T : Tb t hs) {h : Int} {K i j : Nat} (hK : way t.mask h K ∉ t.place.toList) (hi : hs[i]? = some h) (hj : t.place.toList[i]? = some j) : ∃ c, c < K ∧ way t.mask h c = j := by
  obtain ⟨k, e, hb⟩ := T.far i h j hi hj
  have hm := List.mem_of_getElem? hj
  rcases Nat.lt_trichotomy k K with c | c | c
  · exact ⟨k, c, e⟩
  · subst c; rw [e] at hK; exact absurd hm hK
  · exact absurd (hb K c) hK
/-- one more -/
theorem Tb.put {t : SetTable} {hs : List Int} (T : Tb t hs) {h : Int} {K j : Nat} (ej : way t.mask h K = j) (hj : j ∉ t.place.toList) (hb : ∀ c, c < K → way t.mask h c ∈ t.place.toList) :
    SetTable.below t.place j ≤ hs.length ∧ Tb (t.put j).1 (hs.take (SetTable.below t.place j) ++ h :: hs.drop (SetTable.below t.place j)) ∧ (t.put j).1.fill = hs.length + 1 := by
  obtain ⟨c1, _, _⟩ := below_cut T.ris j
  have hsz : t.place.toList.length = hs.length := by rw [Array.length_toList, T.sz]
  have hq : SetTable.below t.place j ≤ hs.length := by rw [← T.sz]; exact c1
  have hq2 : SetTable.below t.place j ≤ t.place.toList.length := by omega
  have hpp := put_place t j
  have hdm := put_dm T.dm j
  have hnew : (t.put j).1.place.size = hs.length + 1 := by
    rw [← Array.length_toList, hpp, len_ins _ hq2, hsz]
  have up : ∀ x, x ∈ t.place.toList → x ∈ (t.put j).1.place.toList := fun x hx => by rw [hpp]; exact mem_ins.2 (.inr hx)
  have hne : t.place[SetTable.below t.place j]? ≠ some j := fun e => hj (List.mem_of_getElem? (by rw [Array.getElem?_toList]; exact e))
  refine ⟨hq, ⟨ris_insert T.ris hne, hdm, by rw [len_ins _ hq]; exact hnew, T.gm, fun x hx => ?_, fun i h' j' h1 h2 => ?_⟩, ?_⟩
  · rw [hpp] at hx
    rcases mem_ins.1 hx with rfl | hx
    · rw [← ej]; exact g_way
    · exact T.bd x hx
  · rw [tins_get hs hq] at h1
    rw [hpp, tins_get _ hq2] at h2
    show ∃ k, way t.mask h' k = j' ∧ ∀ c, c < k → way t.mask h' c ∈ (t.put j).1.place.toList
    have old : ∀ i', hs[i']? = some h' → t.place.toList[i']? = some j' → ∃ k, way t.mask h' k = j' ∧ ∀ c, c < k → way t.mask h' c ∈ (t.put j).1.place.toList := fun i' a b => by
      obtain ⟨k, e, z⟩ := T.far i' h' j' a b
      exact ⟨k, e, fun c hc => up _ (z c hc)⟩
    by_cases l1 : i < SetTable.below t.place j
    · rw [if_pos l1] at h1 h2; exact old i h1 h2
    · rw [if_neg l1] at h1 h2
      by_cases l2 : i = SetTable.below t.place j
      · rw [if_pos l2] at h1 h2
        cases h1; cases h2
        exact ⟨K, ej, fun c hc => up _ (hb c hc)⟩
      · rw [if_neg l2] at h1 h2; exact old (i - 1) h1 h2
  · show (t.put j).1.place.size + (t.put j).1.dummies.size = _
    rw [hnew, hdm]; rfl
/-! ### a table laid anew -/
theorem g_free {m : Nat} (hm : Gm m) (owner : Array (Option Nat)) (h : Int) {j : Nat} (hj : j ≤ m) (hf : oAt owner j = none) :
    ∃ K, SetTable.layClean.free m owner (SetTable.turns m) (SetTable.bits h % (m + 1)) (SetTable.bits h) = some (way m h K) ∧ oAt owner (way m h K) = none ∧ ∀ c, c < K → oAt owner (way m h c) ≠ none := by
  obtain ⟨n, hn, e⟩ := g_meets hm h hj
  have hw : way m h (off m (SetTable.bits h % (m + 1)) (SetTable.bits h) n) = j := by
    show (nth m (runAt m (SetTable.bits h % (m + 1)) (SetTable.bits h)) (off m _ _ n)).j = j
    rw [nth_off, itL_run]; exact e
  obtain ⟨K, k1, k2, k3⟩ := st_least (p := fun k => oAt owner (way m h k) = none) _ (show oAt owner (way m h (off m (SetTable.bits h % (m + 1)) (SetTable.bits h) n)) = none by rw [hw]; exact hf)
  have tell : ∀ c, (oAt owner (nth m (runAt m (SetTable.bits h % (m + 1)) (SetTable.bits h)) c).j).isNone = true ↔ oAt owner (way m h c) = none := fun c => Option.isNone_iff_eq_none
  refine ⟨K, free_spec m owner (SetTable.turns m) n _ _ K (by unfold SetTable.turns; omega) k1 (fun c hc => ?_) ((tell K).mpr k2), k2, k3⟩
  exact Bool.eq_false_iff.mpr fun z => k3 c hc ((tell c).mp z)
structure Ow (m : Nat) (done : List Int) (owner : Array (Option Nat)) : Prop where
  sz : owner.size = m + 1
  at_ : ∀ j k, j ≤ m → oAt owner j = some k → ∃ h K, done[k]? = some h ∧ way m h K = j ∧ ∀ c, c < K → oAt owner (way m h c) ≠ none
  all : ∀ k, k < done.length → ∃ j, j ≤ m ∧ oAt owner j = some k
  few : ∃ ps : List Nat, ps.length = done.length ∧ ∀ j, j ≤ m → oAt owner j ≠ none → j ∈ ps
theorem Ow.nil (m : Nat) : Ow m [] (Array.replicate (m + 1) none) :=
  ⟨by simp, (fun j k hj e => by rw [oAt_init hj] at e; cases e), (fun k hk => absurd hk (Nat.not_lt_zero _)), [], rfl, (fun j hj e => absurd (oAt_init hj) e)⟩
theorem Ow.more {m : Nat} (hm : Gm m) {done : List Int} {owner : Array (Option Nat)} (W : Ow m done owner) (hl : done.length ≤ m) (h : Int) :
    ∃ j, SetTable.layClean.free m owner (SetTable.turns m) (SetTable.bits h % (m + 1)) (SetTable.bits h) = some j ∧ Ow m (done ++ [h]) (owner.setIfInBounds j (some done.length)) := by
  obtain ⟨ps, hps, hin⟩ := W.few
  obtain ⟨j0, h0, hn0⟩ := st_missing ps (m + 1) (by omega)
  have hj0 : oAt owner j0 = none := Classical.byContradiction fun z => hn0 (hin j0 (by omega) z)
  obtain ⟨K, e1, e2, e3⟩ := g_free hm owner h (show j0 ≤ m by omega) hj0
  refine ⟨_, e1, ?_⟩
  have hjm : way m h K ≤ m := g_way
  obtain ⟨j, ej⟩ : ∃ j, way m h K = j := ⟨_, rfl⟩
  rw [ej] at e2 hjm ⊢
  have self := oAt_set_self (owner := owner) (j := j) (some done.length) (by rw [W.sz]; omega)
  have mono : ∀ i, oAt owner i ≠ none → oAt (owner.setIfInBounds j (some done.length)) i ≠ none := fun i hi => by
    by_cases c : i = j
    · rw [c, self]; simp
    · rw [oAt_set_ne _ c]; exact hi
  refine ⟨by rw [Array.size_setIfInBounds]; exact W.sz, fun i k hi e => ?_, fun k hk => ?_, j :: ps, by simp [hps], fun i hi e => ?_⟩
  · by_cases c : i = j
    · rw [c, self] at e
      cases e
      exact ⟨h, K, by simp, by rw [ej, c], fun c hc => mono _ (e3 c hc)⟩
    · rw [oAt_set_ne _ c] at e
      obtain ⟨h', K', a1, a2, a3⟩ := W.at_ i k hi e
      refine ⟨h', K', ?_, a2, fun c hc => mono _ (a3 c hc)⟩
      rw [List.getElem?_append_left (List.getElem?_eq_some_iff.mp a1).1]; exact a1
  · rw [List.length_append, List.length_singleton] at hk
    by_cases c : k < done.length
    · obtain ⟨i, hi, e⟩ := W.all k c
      refine ⟨i, hi, ?_⟩
      rw [oAt_set_ne _ (fun z => by rw [z, e2] at e; cases e)]; exact e
    · obtain rfl : k = done.length := by omega
      exact ⟨j, hjm, self⟩
  · by_cases c : i = j
    · rw [c]; exact List.mem_cons_self
    · rw [oAt_set_ne _ c] at e
      exact List.mem_cons_of_mem _ (hin i hi e)
theorem ow_fold {m : Nat} (hm : Gm m) : ∀ (rest done : List Int) (owner : Array (Option Nat)), Ow m done owner → done.length + rest.length ≤ m →
    ∃ owner', rest.foldl (stepF m) (some (owner, done.length)) = some (owner', (done ++ rest).length) ∧ Ow m (done ++ rest) owner'
  | [], done, owner, W, _ => ⟨owner, by rw [List.append_nil]; rfl, by rw [List.append_nil]; exact W⟩
  | h :: rest, done, owner, W, hl => by
    rw [List.length_cons] at hl
    obtain ⟨j, e, W'⟩ := W.more hm (by omega) h
    obtain ⟨o2, f, W2⟩ := ow_fold hm rest (done ++ [h]) _ W' (by rw [List.length_append]; simp; omega)
    rw [List.append_assoc] at f W2
    refine ⟨o2, ?_, W2⟩
    rw [List.foldl_cons, stepF_some e]
    rw [List.length_append, List.length_singleton] at f
    exact f
theorem ow_lay {m : Nat} (hm : Gm m) {hs : Array Int} (hn : hs.size ≤ m) : ∃ owner, SetTable.layClean m hs = some owner ∧ Ow m hs.toList owner := by
  obtain ⟨owner, f, W⟩ := ow_fold hm hs.toList [] _ (Ow.nil m) (by simp; exact hn)
  refine ⟨owner, ?_, W⟩
  rw [layClean_eq]
  show (hs.toList.foldl (stepF m) (some (Array.replicate (m + 1) none, ([] : List Int).length))).map (·.1) = _
  rw [f]; rfl
theorem g_relaid (t : SetTable) {hs : Array Int} {wanted M : Nat} (hw : SetTable.sizeAbove wanted - 1 = M) (hM : Gm M) (hn : hs.size ≤ M) :
    ∃ t' order, t.relaid hs wanted = some (t', order) ∧ order.toList.Perm (List.range hs.size) ∧ Tb t' (order.toList.map fun i => hs.getD i 0) ∧ t'.mask = M ∧ t'.led = t.led ∧ t'.plain = t.plain := by
  obtain ⟨owner, e, W⟩ := ow_lay hM hn
  have hr : t.relaid hs wanted = some (tabOf t M owner, ((liveOf M owner).map (·.2)).toArray) := by
    rw [relaid_eq, hw, e]; rfl
  obtain ⟨r1, r2⟩ := ris_live (fun j => owner.getD j none) (List.range (M + 1)) List.pairwise_lt_range
  have r1 : Ris ((liveOf M owner).map (·.1)) := r1
  have r2 : ∀ x ∈ (liveOf M owner).map (·.1), x ∈ List.range (M + 1) := r2
  have live := fun {j k : Nat} => mem_live (m := M) (owner := owner) W.sz (j := j) (k := k)
  have has2 : ∀ k, k < hs.size → k ∈ (liveOf M owner).map (·.2) := fun k hk => by
    obtain ⟨j, b1, b2⟩ := W.all k (by rw [Array.length_toList]; exact hk)
    exact List.mem_map.mpr ⟨(j, k), live.2 ⟨b1, b2⟩, rfl⟩
  have hlen : ((liveOf M owner).map (·.2)).length = hs.size := by
    obtain ⟨ps, p1, p2⟩ := W.few
    have nd : ((liveOf M owner).map (·.1)).Nodup := r1.imp fun h => Nat.ne_of_lt h
    have a := nat_nodup_len ((liveOf M owner).map (·.1)) ps nd fun x hx => by
      obtain ⟨⟨y, k⟩, hq, rfl⟩ := List.mem_map.mp hx
      obtain ⟨b1, b2⟩ := live.1 hq
      exact p2 _ b1 (by rw [b2]; simp)
    have b := nat_nodup_len (List.range hs.size) ((liveOf M owner).map (·.2)) List.nodup_range fun k hk => has2 k (List.mem_range.mp hk)
    have hz : hs.toList.length = hs.size := rfl
    rw [p1, List.length_map] at a
    rw [List.length_range] at b
    rw [List.length_map] at b ⊢
    omega
  refine ⟨_, _, hr, perm_range _ _ hlen has2, ⟨r1, rfl, by simp [tabOf], hM, fun x hx => ?_, fun i h j h1 h2 => ?_⟩, rfl, rfl, rfl⟩
  · have := List.mem_range.mp (r2 x hx)
    show x ≤ M
    omega
  · have h1 : (((liveOf M owner).map (·.2)).map fun i => hs.getD i 0)[i]? = some h := h1
    have h2 : ((liveOf M owner).map (·.1))[i]? = some j := h2
    rw [List.getElem?_map] at h2
    obtain ⟨⟨y, k⟩, eq, rfl⟩ := Option.map_eq_some_iff.mp h2
    rw [List.getElem?_map, List.getElem?_map, eq] at h1
    have h1 : hs.getD k 0 = h := Option.some.inj h1
    obtain ⟨b1, b2⟩ := live.1 (List.mem_of_getElem? eq)
    obtain ⟨h0, K, a1, a2, a3⟩ := W.at_ y k b1 b2
    have e0 : hs.getD k 0 = h0 := by
      rw [Array.getD_eq_getD_getElem?, ← Array.getElem?_toList, a1]; rfl
    rw [e0] at h1
    subst h1
    refine ⟨K, a2, fun c hc => ?_⟩
    show way M h0 c ∈ (liveOf M owner).map (·.1)
    cases z : oAt owner (way M h0 c) with
    | none => exact absurd z (a3 c hc)
    | some k2 => exact List.mem_map.mpr ⟨(way M h0 c, k2), live.2 ⟨g_way, z⟩, rfl⟩
/-- the sizes of a table that grows by one at a time -/
theorem g_grow {m n : Nat} (hm : Gm m) (h1 : n * 5 < m * 3) (h2 : (n + 1) * 5 ≥ m * 3) (hn : n + 1 ≤ 1000) : ∃ M, SetTable.sizeAbove (SetTable.grown (n + 1)) - 1 = M ∧ Gm M ∧ SetTable.sizeAbove (SetTable.grown (n + 1)) ≤ 2048 ∧ (n + 1) * 5 < M * 3 := by
  rcases hm with e | e | e | e | e <;> subst e
  · obtain rfl : n = 4 := by omega
    exact ⟨31, by decide +kernel, .inr (.inl rfl), by decide +kernel, by decide⟩
  · obtain rfl : n = 18 := by omega
    exact ⟨127, by decide +kernel, .inr (.inr (.inl rfl)), by decide +kernel, by decide⟩
  · obtain rfl : n = 76 := by omega
    exact ⟨511, by decide +kernel, .inr (.inr (.inr (.inl rfl))), by decide +kernel, by decide⟩
  · obtain rfl : n = 306 := by omega
    exact ⟨2047, by decide +kernel, .inr (.inr (.inr (.inr rfl))), by decide +kernel, by decide⟩
  · omega
end PM
set_option Elab.async false
set_option linter.all false
set_option maxRecDepth 100000
set_option maxHeartbeats 4000000
set_option autoImplicit false
namespace PM
open PySem PySem.Spec PyProof.Rows L2
/-! ### sets of tuples of plain keys, at the level of the library -/
section
variable {P : Program} {w : World} {K : Type} [DecidableEq K]
/-- nothing is asked of the items but their worth -/
structure Flat (knd : KeyKind P w K) : Prop where
  cls : ∀ k v, knd.is k v = true → ∀ n, ofAClassStatement n v = pure false
  val : ∀ k v, knd.is k v = true → ∀ n, hashByValue n v = pure false
theorem flat_str : Flat (strKind P w) := by
  refine ⟨fun k v h n => ?_, fun k v h n => ?_⟩
  · obtain ⟨t, rfl⟩ := Value.isStrOf_shape h
    cases n <;> rfl
  · obtain ⟨t, rfl⟩ := Value.isStrOf_shape h
    cases n <;> rfl
variable {knd : KeyKind P w K} {A : Around} {E : Value → Shared → Prop} {s : Shared}
theorem items_is {k : List K} {vs : List Value} (h : ItemsAre knd k vs) : ∀ v ∈ vs, ∃ c, knd.is c v = true := by
  induction h with
  | nil => intro v hv; cases hv
  | cons h1 _ ih =>
    intro v hv
    rcases List.mem_cons.mp hv with rfl | hv
    · exact ⟨_, h1⟩
    · exact ih v hv
theorem cls_tup (fl : Flat knd) {k : List K} {b : Addr} {Q : Bool → Shared → Prop} (hk : IsTupleKey knd s.heap k b) (h : Q false s) : wpAny (model P w) A (ofAClassStatement 8 (.ref b)) Q E s := by
  have hT := hk.typeIs
  obtain ⟨o, items, n, ho, _, hd, hi⟩ := hk
  have hit := items_is hi
  unfold ofAClassStatement
  refine wpAny_bind (wpAny_typeOf hT ?_)
  dsimp only
  have e : (("tuple" : String) == "tuple") = true := by decide
  simp only [e, if_true, Bool.not_true, Bool.false_eq_true, if_false]
  try refine wpAny_bind (wpAny_pure ?_)
  try simp only [Bool.not_true, Bool.false_eq_true, if_false]
  show wpAny _ _ (seqItems? (.ref b) >>= _) _ _ s
  refine wpAny_bind (wpAny_seqItems ho hd ?_)
  dsimp only
  refine wpAny_bind ?_
  show wpAny _ _ (forIn items _ _) _ _ s
  rw [← Array.forIn_toList]
  refine wpAny_forIn_list _ (fun rest r s' => r.1 = none ∧ s' = s ∧ ∀ v ∈ rest, ∃ c, knd.is c v = true) _ ?_ ?_ _ _ ⟨rfl, rfl, hit⟩
  · rintro v rest r s' ⟨hr, rfl, all⟩
    obtain ⟨c, hc⟩ := all v List.mem_cons_self
    rw [fl.cls c v hc]
    refine wpAny_bind (wpAny_pure ?_)
    simp only [Bool.false_eq_true, if_false]
    exact wpAny_pure ⟨rfl, rfl, fun u hu => all u (List.mem_cons_of_mem _ hu)⟩
  · rintro ⟨r1, r2⟩ s' ⟨hr, rfl, _⟩
    simp only at hr
    subst hr
    exact wpAny_pure h
theorem val_tup (fl : Flat knd) {k : List K} {b : Addr} {Q : Bool → Shared → Prop} (hk : IsTupleKey knd s.heap k b) (h : ∀ c, Q c s) : wpAny (model P w) A (hashByValue 8 (.ref b)) Q E s := by
  have hT := hk.typeIs
  obtain ⟨o, items, n, ho, _, hd, hi⟩ := hk
  have hit := items_is hi
  unfold hashByValue
  refine wpAny_bind (wpAny_specialOf hT F.slot_tuple_hash.lookup ?_)
  show wpAny _ _ (seqItems? (.ref b) >>= _) _ _ s
  refine wpAny_bind (wpAny_seqItems ho hd ?_)
  refine wpAny_bind ?_
  show wpAny _ _ (forIn items _ _) _ _ s
  rw [← Array.forIn_toList]
  refine wpAny_forIn_list _ (fun rest r s' => r.1 = none ∧ s' = s ∧ ∀ v ∈ rest, ∃ c, knd.is c v = true) _ ?_ ?_ _ _ ⟨rfl, rfl, hit⟩
  · rintro v rest r s' ⟨hr, rfl, all⟩
    obtain ⟨c, hc⟩ := all v List.mem_cons_self
    rw [fl.val c v hc]
    refine wpAny_bind (wpAny_pure ?_)
    simp only [Bool.not_false, if_true]
    exact wpAny_pure (wpAny_pure (h false))
  · rintro ⟨r1, r2⟩ s' ⟨hr, rfl, _⟩
    simp only at hr
    subst hr
    exact wpAny_pure (h true)
theorem quiet_tups (fl : Flat knd) {k : List K} {b : Addr} {Q : Bool → Shared → Prop} (hk : IsTupleKey knd s.heap k b) {ys : List Value} (hy : ∀ y ∈ ys, ∃ k' c, y = Value.ref c ∧ IsTupleKey knd s.heap k' c) (h : Q false s) :
    wpAny (model P w) A (searchCouldBeSeen (.ref b) ys) Q E s := by
  unfold searchCouldBeSeen
  refine wpAny_bind ?_
  refine wpAny_forIn_list _ (fun rest r s' => r.1 = none ∧ s' = s ∧ ∀ y ∈ rest, ∃ k' c, y = Value.ref c ∧ IsTupleKey knd s.heap k' c) _ ?_ ?_ _ _ ⟨rfl, rfl, hy⟩
  · rintro v rest r s' ⟨hr, rfl, all⟩
    obtain ⟨k', c, rfl, hc⟩ := all v List.mem_cons_self
    have next : ∀ y ∈ rest, ∃ k' c, y = Value.ref c ∧ IsTupleKey knd s'.heap k' c := fun u hu => all u (List.mem_cons_of_mem _ hu)
    dsimp only
    by_cases hv : (b == c || (carriedByValue (.ref b) && carriedByValue (.ref c))) = true
    · exact wp_if_pos hv (wpAny_pure ⟨rfl, rfl, next⟩)
    · refine wp_if_neg hv ?_
      refine wpAny_bind (wpAny_eqIsQuiet_tuple hk ?_)
      simp only [Bool.not_true, Bool.false_eq_true, if_false]
      refine wpAny_bind (wpAny_eqIsQuiet_tuple hc ?_)
      simp only [Bool.not_true, Bool.false_eq_true, if_false]
      refine wpAny_bind (cls_tup fl hk ?_)
      simp only [Bool.false_eq_true, if_false]
      refine wpAny_bind (cls_tup fl hc ?_)
      simp only [Bool.false_eq_true, if_false]
      exact wpAny_pure ⟨rfl, rfl, next⟩
  · rintro ⟨r1, r2⟩ s' ⟨hr, rfl, _⟩
    simp only at hr
    subst hr
    exact wpAny_pure h
/-! #### the set -/
variable (knd) in
abbrev hsh (k : List K) : Int := tupleKeyHash knd k
variable (knd) in
def rowsG (L : List (Addr × List K)) : List (Int × Value) := L.map fun p => (hsh knd p.2, Value.ref p.1)
structure SetG (knd : KeyKind P w K) (h : Heap) (a : Addr) (L : List (Addr × List K)) (es : Array (Int × Value)) (ep : Nat) (t : SetTable) : Prop where
  ob : ∃ o, h.get? a = some o ∧ o.ExactSet ∧ o.data = .set es ep t
  rows : es.toList = rowsG knd L
  tab : Tb t (L.map fun p => hsh knd p.2)
  nd : (L.map (·.2)).Nodup
  tup : ∀ p ∈ L, IsTupleKey knd h p.2 p.1
  led : w.params.followText "set-order" = true ∨ t.led = true
  room : L.length * 5 < t.mask * 3
variable {a : Addr} {L : List (Addr × List K)} {es : Array (Int × Value)} {ep : Nat} {t : SetTable}
theorem rowsG_size (hr : es.toList = rowsG knd L) : es.size = L.length := by
  have h := congrArg List.length hr
  unfold rowsG at h
  rw [Array.length_toList, List.length_map] at h
  exact h
theorem fits_of (T : Tb t (L.map fun p => hsh knd p.2)) (hr : es.toList = rowsG knd L) (hf : L.length ≤ t.mask) : t.fits es.size = true := by
  have h1 := T.sz
  rw [List.length_map] at h1
  have h2 := rowsG_size hr
  unfold SetTable.fits SetTable.fill
  rw [T.dm, Bool.and_eq_true, beq_iff_eq, decide_eq_true_eq]
  show t.place.size = es.size ∧ t.place.size + 0 ≤ t.mask
  omega
theorem SetG.fits (R : SetG knd s.heap a L es ep t) : t.fits es.size = true := fits_of R.tab R.rows (by have := R.room; omega)
theorem SetG.at (R : SetG knd s.heap a L es ep t) {i : Nat} {p : Addr × List K} (h : L[i]? = some p) : es[i]? = some (hsh knd p.2, Value.ref p.1) := by
  rw [← Array.getElem?_toList, R.rows]
  unfold rowsG
  rw [List.getElem?_map, h]; rfl
theorem SetG.gw (R : SetG knd s.heap a L es ep t) : ¬ t.gaveWay = true := by
  unfold SetTable.gaveWay
  rw [g_odd R.tab.gm]
  decide
/-- the state of a search behind c steps -/
abbrev st (t : SetTable) (h : Int) (c : Nat) : SetTable.Probe := nth t.mask (runAt t.mask (SetTable.bits h % (t.mask + 1)) (SetTable.bits h)) c
theorem st_dummy (t : SetTable) (h : Int) (c : Nat) : (st t h c).dummy = none := by
  have key : ∀ (n : Nat) (p : SetTable.Probe), p.dummy = none → (nth t.mask p n).dummy = none := by
    intro n
    induction n with
    | zero => exact fun p h => h
    | succ n ih =>
      intro p h
      refine ih _ ?_
      unfold adv
      split <;> exact h
  exact key c _ rfl
theorem st_add (t : SetTable) (h : Int) (c q : Nat) : nth t.mask (st t h c) q = st t h (c + q) := (nth_add t.mask c _ q).symm
/-- a search from step c on: K is the first empty slot's step -/
theorem g_search (fl : Flat knd) (R : SetG knd s.heap a L es ep t) {x : Addr} {k : List K} (hx : IsTupleKey knd s.heap k x) (hu : A.units < cLine) {N : Nat} (hNf : N < 10 * SetTable.turns t.mask)
    (hN : way t.mask (hsh knd k) N ∉ t.place.toList) (hb : ∀ c, c < N → way t.mask (hsh knd k) c ∈ t.place.toList) {Q : SetFound → Shared → Prop}
    (hin : k ∈ L.map (·.2) → Q (.there none) s) (hout : k ∉ L.map (·.2) → Q (.free (way t.mask (hsh knd k) N) false) s) :
    ∀ (f c : Nat) (stand : Option SetTable.Probe), stand.getD (t.probeStart (hsh knd k)) = st t (hsh knd k) c → c ≤ N → N - c < f →
      (∀ (i : Nat) p, L[i]? = some p → p.2 = k → ∃ c', c ≤ c' ∧ c' < N ∧ t.place.toList[i]? = some (way t.mask (hsh knd k) c')) →
      wpAny (model P w) A (setSearchFrom a (.ref x) (hsh knd k) true f stand) Q E s := by
  intro f
  induction f with
  | zero => intro c stand _ _ hf; exact absurd hf (Nat.not_lt_zero _)
  | succ f ih =>
    intro c stand hst hc hf hre
    obtain ⟨o, ho, hex, hd⟩ := R.ob
    rw [setSearchFrom_succ]
    refine wpAny_bind (wpAny_setState_of ho hd R.fits ?_)
    dsimp only
    refine wp_if_neg R.gw ?_
    try refine wpAny_bind (wpAny_pure ?_)
    have hj : ∀ q, (nth t.mask (st t (hsh knd k) c) q).j = way t.mask (hsh knd k) (c + q) := fun q => congrArg SetTable.Probe.j (st_add t _ c q)
    have hash : ∀ (i : Nat) p, L[i]? = some p → (fun i => (es[i]?.map (·.1)).getD 0) i = hsh knd p.2 := fun i p hp => by
      show (es[i]?.map (·.1)).getD 0 = _
      rw [R.at hp]; rfl
    have goes := go_spec t R.tab.ris R.tab.dm (fun i => (es[i]?.map (·.1)).getD 0) (hsh knd k) (10 * SetTable.turns t.mask) (N - c) (st t (hsh knd k) c) (st_dummy t _ c) (by omega)
      (fun q hq => by rw [hj]; exact hb _ (by omega)) (by rw [hj, show c + (N - c) = N by omega]; exact hN)
    rcases goes with ⟨q, i, hq, hi, hh, hno, hpr⟩ | ⟨hno, hpr⟩
    · have hpr2 : t.probe (fun i => (es[i]?.map (·.1)).getD 0) (hsh knd k) (stand.getD (t.probeStart (hsh knd k))) = some (.candidate (way t.mask (hsh knd k) (c + q)) i (st t (hsh knd k) (c + (q + 1)))) := by
        rw [hst, ← hj, ← st_add]; exact hpr
      rw [hpr2]
      dsimp only
      rw [hj] at hi
      have hil : i < L.length := by
        have h1 := (List.getElem?_eq_some_iff.mp hi).1
        have h2 := R.tab.sz
        rw [List.length_map] at h2
        rw [Array.length_toList] at h1
        omega
      obtain ⟨p, hp⟩ : ∃ p, L[i]? = some p := ⟨_, List.getElem?_eq_getElem hil⟩
      have hm : p ∈ L := List.mem_of_getElem? hp
      have rest : wpAny (model P w) A (searchRest a (.ref x) (hsh knd k) true f es t (way t.mask (hsh knd k) (c + q)) i (st t (hsh knd k) (c + (q + 1)))) Q E s := by
        unfold searchRest
        rw [R.at hp]
        dsimp only
        refine wpAny_bind (wpAny_holding (wpAny_eqBool_tuple hu (R.tup p hm) hx ?_))
        refine wpAny_bind (wpAny_setState_of ho hd R.fits ?_)
        dsimp only
        by_cases hk : p.2 = k
        · exact wp_if_pos (by simp [hk]) (wpAny_pure (hin (List.mem_map.mpr ⟨p, hm, hk⟩)))
        · refine wp_if_neg (by simp [hk]) ?_
          try refine wpAny_bind (wpAny_pure ?_)
          rw [sameMem]
          dsimp only
          have hsl : t.slot (way t.mask (hsh knd k) (c + q)) = .live i := slot_live R.tab.ris hi
          simp only [if_true, hsl, R.at hp]
          refine wpAny_bind (wpAny_isSame_ref_self (wpAny_bind (wpAny_pure ?_)))
          simp only [if_true]
          refine wp_if_neg (by simp [hk]) ?_
          refine ih (c + (q + 1)) _ rfl (by omega) (by omega) fun i0 p0 h0 hk0 => ?_
          obtain ⟨c', a1, a2, a3⟩ := hre i0 p0 h0 hk0
          have hhash : (fun i => (es[i]?.map (·.1)).getD 0) i0 = hsh knd k := by rw [hash i0 p0 h0, hk0]
          refine ⟨c', ?_, a2, a3⟩
          refine Nat.le_of_not_lt fun hlt => ?_
          by_cases hlt2 : c' - c < q
          · exact hno (c' - c) i0 hlt2 (by rw [hj, show c + (c' - c) = c' by omega]; exact a3) hhash
          · have ec : c' = c + q := by omega
            subst ec
            have s0 := slot_live R.tab.ris a3
            rw [hsl] at s0
            injection s0 with s0
            rw [← s0, hp] at h0
            cases h0
            exact hk hk0
      by_cases hl : t.led = true
      · refine wp_if_neg (by simp [hl]) ?_
        try refine wpAny_bind (wpAny_pure ?_)
        exact rest
      · refine wp_if_pos (by simp [hl]) ?_
        refine wpAny_bind (quiet_tups fl hx (fun y hy => ?_) ?_)
        · obtain ⟨e, he, rfl⟩ := List.mem_map.mp hy
          have he1 : e ∈ es ∧ e.1 = hsh knd k := by simpa using he
          have he2 : e ∈ es.toList := by simpa using he1.1
          rw [R.rows] at he2
          obtain ⟨p2, hp2, rfl⟩ := List.mem_map.mp he2
          exact ⟨p2.2, p2.1, rfl, R.tup p2 hp2⟩
        · refine wp_if_neg (by decide) ?_
          try refine wpAny_bind (wpAny_pure ?_)
          exact rest
    · have hpr2 : t.probe (fun i => (es[i]?.map (·.1)).getD 0) (hsh knd k) (stand.getD (t.probeStart (hsh knd k))) = some (.empty (way t.mask (hsh knd k) N) none) := by
        have e2 : way t.mask (hsh knd k) N = (nth t.mask (st t (hsh knd k) c) (N - c)).j := by rw [hj, show c + (N - c) = N by omega]
        rw [hst, e2]; exact hpr
      rw [hpr2]
      dsimp only
      refine wpAny_pure (hout fun hm => ?_)
      obtain ⟨p0, h0, hk0⟩ := List.mem_map.mp hm
      obtain ⟨i0, hi0⟩ := List.getElem?_of_mem h0
      obtain ⟨c', a1, a2, a3⟩ := hre i0 p0 hi0 hk0
      exact hno (c' - c) i0 (by omega) (by rw [hj, show c + (c' - c) = c' by omega]; exact a3) (by have := hash i0 p0 hi0; rw [hk0] at this; exact this)
theorem g_find (fl : Flat knd) (R : SetG knd s.heap a L es ep t) {x : Addr} {k : List K} (hx : IsTupleKey knd s.heap k x) (hu : A.units < cLine) {Q : SetFound → Shared → Prop}
    (hin : k ∈ L.map (·.2) → Q (.there none) s)
    (hout : ∀ N, k ∉ L.map (·.2) → way t.mask (hsh knd k) N ∉ t.place.toList → (∀ c, c < N → way t.mask (hsh knd k) c ∈ t.place.toList) → Q (.free (way t.mask (hsh knd k) N) false) s) :
    wpAny (model P w) A (setSearch a (.ref x) (hsh knd k) true) Q E s := by
  have hroom := R.room
  obtain ⟨N, hNf, hN, hb⟩ := R.tab.first (by rw [List.length_map]; omega) (hsh knd k)
  have hbig : N < 100000 := by
    have := g_le R.tab.gm
    unfold SetTable.turns at hNf
    omega
  unfold setSearch
  refine g_search fl R hx hu hNf hN hb hin (fun hn => hout N hn hN hb) 100000 0 none rfl (Nat.zero_le _) (by omega) fun i p hp hk => ?_
  have hi : (L.map fun p => hsh knd p.2)[i]? = some (hsh knd k) := by rw [List.getElem?_map, hp, ← hk]; rfl
  have hil : i < t.place.toList.length := by
    have h1 := (List.getElem?_eq_some_iff.mp hp).1
    have h2 := R.tab.sz
    rw [List.length_map] at h2
    rw [Array.length_toList]; omega
  have hj := List.getElem?_eq_getElem hil
  obtain ⟨c, hc, e⟩ := R.tab.before hN hi hj
  exact ⟨c, Nat.zero_le _, hc, by rw [hj, e]⟩
/-! #### adding -/
theorem tup_other {h h' : Heap} {k : List K} {a b : Addr} {o : Obj} {es : Array (Int × Value)} {ep : Nat} {t : SetTable} (hb : IsTupleKey knd h k b) (ho : h.get? a = some o) (hd : o.data = .set es ep t) (hs : Heap.SameBut a h h') : IsTupleKey knd h' k b := by
  obtain ⟨o', items, n, ho', hc, hd', hi⟩ := hb
  refine ⟨o', items, n, (hs.2 b ?_).trans ho', hc, hd', hi⟩
  rintro rfl
  obtain rfl : o' = o := Option.some.inj (ho'.symm.trans ho)
  rw [hd] at hd'
  exact nomatch hd'
theorem tup_keep {h h' : Heap} {k : List K} {b : Addr} (x : IsTupleKey knd h k b) (hk : ∀ c o, h.get? c = some o → h'.get? c = some o) : IsTupleKey knd h' k b := by
  obtain ⟨o, items, n, ho, r⟩ := x
  exact ⟨o, items, n, hk b o ho, r⟩
theorem take_all {α : Type} (L : List α) : (List.range L.length).filterMap (fun i => L[i]?) = L := by
  have key : ∀ n, n ≤ L.length → (List.range n).filterMap (fun i => L[i]?) = L.take n := by
    intro n
    induction n with
    | zero => intro _; rfl
    | succ n ih =>
      intro hn
      rw [List.range_succ, List.filterMap_append, ih (by omega), List.take_add_one, List.getElem?_eq_getElem (show n < L.length by omega)]
      simp [List.getElem?_eq_getElem (show n < L.length by omega)]
  rw [key L.length (Nat.le_refl _), List.take_length]
theorem rows_order (L : List (Addr × List K)) (es : Array (Int × Value)) (order : Array Nat) (hr : es.toList = rowsG knd L) (hp : order.toList.Perm (List.range L.length)) :
    ∃ L2, (order.filterMap (es[·]?)).toList = rowsG knd L2 ∧ L2.Perm L ∧ (L2.map fun p => hsh knd p.2) = order.toList.map fun i => (es.map (·.1)).getD i 0 := by
  have ent : ∀ (i : Nat) (p : Addr × List K), L[i]? = some p → es[i]? = some (hsh knd p.2, Value.ref p.1) := fun i p h => by
    rw [← Array.getElem?_toList, hr]
    unfold rowsG
    rw [List.getElem?_map, h]; rfl
  have key : ∀ l : List Nat, (∀ i ∈ l, i < L.length) → l.filterMap (fun i => es[i]?) = rowsG knd (l.filterMap fun i => L[i]?) ∧ ((l.filterMap fun i => L[i]?).map fun p => hsh knd p.2) = l.map fun i => (es.map (·.1)).getD i 0 := by
    intro l
    induction l with
    | nil => intro _; exact ⟨rfl, rfl⟩
    | cons i l ih =>
      intro hl
      obtain ⟨e1, e3⟩ := ih fun j hj => hl j (List.mem_cons_of_mem _ hj)
      obtain ⟨p, hp⟩ : ∃ p, L[i]? = some p := ⟨_, List.getElem?_eq_getElem (hl i List.mem_cons_self)⟩
      have he := ent i p hp
      have e4 : (es.map (·.1)).getD i 0 = hsh knd p.2 := by
        have e5 : (es.map (·.1))[i]? = some (hsh knd p.2) := by rw [Array.getElem?_map, he]; rfl
        simp [Array.getD_eq_getD_getElem?, e5]
      constructor
      · rw [List.filterMap_cons_some he, List.filterMap_cons_some hp, e1]; rfl
      · rw [List.filterMap_cons_some hp, List.map_cons, List.map_cons, e3, e4]
  obtain ⟨e1, e3⟩ := key order.toList fun i hi => List.mem_range.mp (hp.mem_iff.mp hi)
  refine ⟨_, by first | (rw [Array.toList_filterMap]; exact e1) | simpa using e1, ?_, e3⟩
  have := hp.filterMap fun i => L[i]?
  rw [take_all] at this
  exact this
theorem g_relay {o : Obj} (ho : s.heap.get? a = some o) (hex : o.ExactSet) (hd : o.data = .set es ep t) (hr : es.toList = rowsG knd L) (T : Tb t (L.map fun p => hsh knd p.2)) (hfl : L.length ≤ t.mask)
    (nd : (L.map (·.2)).Nodup) (tup : ∀ p ∈ L, IsTupleKey knd s.heap p.2 p.1) (ld : w.params.followText "set-order" = true ∨ t.led = true) {wanted M : Nat}
    (hw : SetTable.sizeAbove wanted - 1 = M) (hM : Gm M) (hw2 : SetTable.sizeAbove wanted ≤ 2048) (hn : L.length * 5 < M * 3) {Q : Unit → Shared → Prop}
    (hQ : ∀ h' L' es' ep' t', Heap.SameBut a s.heap h' → SetG knd h' a L' es' ep' t' → L'.Perm L → Q () { s with heap := h' }) : wpAny (model P w) A (setRelay a wanted) Q E s := by
  have hsl := rowsG_size hr
  obtain ⟨t', order, e, hp, T', em, el, epl⟩ := g_relaid t (hs := es.map (·.1)) (wanted := wanted) hw hM (by rw [Array.size_map, hsl]; omega)
  rw [Array.size_map, hsl] at hp
  obtain ⟨L2, r1, r2, r3⟩ := rows_order L es order hr hp
  rw [← r3] at T'
  have hs2 : (order.filterMap (es[·]?)).size = es.size := by rw [rowsG_size r1, r2.length_eq, hsl]
  rw [setRelay_eq]
  refine wpAny_bind (wpAny_setState_of ho hd (fits_of T hr hfl) ?_)
  dsimp only
  refine wp_if_neg (by rw [sizeLine_eq]; omega) ?_
  try refine wpAny_bind (wpAny_pure ?_)
  rw [e]
  dsimp only
  refine wpAny_bind ?_
  refine wp_if_neg (by rw [hs2]; simp) ?_
  try refine wpAny_bind (wpAny_pure ?_)
  refine wpAny_pure ?_
  dsimp only
  have hMl := g_le hM
  refine wpAny_storeSet_of ho hd ?_ (by rw [hs2, hsl, sizeLine_eq]; omega)
  have sb : Heap.SameBut a s.heap (s.heap.update a (Obj.putSet (order.filterMap (es[·]?)) t')) := Heap.SameBut.update ..
  refine hQ _ L2 _ (ep + 1) t' sb ⟨⟨_, store_at ho hd, ⟨hex.1, hex.2.1, hex.2.2⟩, rfl⟩, r1, T', (r2.map (·.2)).nodup_iff.mpr nd, fun p hpm => tup_other (tup p (r2.mem_iff.mp hpm)) ho hd sb, by rw [el]; exact ld, ?_⟩ r2
  rw [r2.length_eq, em]
  exact hn
theorem g_add (fl : Flat knd) (R : SetG knd s.heap a L es ep t) {x : Addr} {k : List K} (hx : IsTupleKey knd s.heap k x) (hu : A.units < cLine) (hfew : L.length + 1 ≤ 1000) {Q : Bool → Shared → Prop}
    (hQ : ∀ b h' L' es' ep' t', Heap.SameBut a s.heap h' → SetG knd h' a L' es' ep' t' → (k ∈ L.map (·.2) → L' = L) → (k ∉ L.map (·.2) → L'.Perm ((x, k) :: L)) → Q b { s with heap := h' }) :
    wpAny (model P w) A (setAddHashed a (.ref x) (hsh knd k)) Q E s := by
  obtain ⟨o, ho, hex, hd⟩ := R.ob
  have hsl := rowsG_size R.rows
  have hroom := R.room
  unfold setAddHashed
  refine wpAny_holding ?_
  rw [show (100000 : Nat) = 99999 + 1 from rfl, setAddHashedIn_succ]
  refine wpAny_bind (wpAny_setState_of ho hd R.fits ?_)
  dsimp only
  refine wp_if_neg (by simp [byScan, Value.scannable]) ?_
  try refine wpAny_bind (wpAny_pure ?_)
  refine wpAny_bind (g_find fl R hx hu (fun hm => ?_) fun N hm hN hb => ?_)
  · dsimp only
    exact wpAny_pure (hQ false s.heap L es ep t (Heap.SameBut.refl a s.heap) R (fun _ => rfl) fun z => absurd hm z)
  · dsimp only
    refine wpAny_bind (wpAny_setState_of ho hd R.fits ?_)
    dsimp only
    obtain ⟨j, ej⟩ : ∃ j, way t.mask (hsh knd k) N = j := ⟨_, rfl⟩
    rw [ej] at hN ⊢
    obtain ⟨q2, T1, q9⟩ := R.tab.put ej hN hb
    rw [List.length_map] at q2 q9
    have eT : (L.map fun p => hsh knd p.2).take (SetTable.below t.place j) ++ hsh knd k :: (L.map fun p => hsh knd p.2).drop (SetTable.below t.place j) = (L.take (SetTable.below t.place j) ++ (x, k) :: L.drop (SetTable.below t.place j)).map fun p => hsh knd p.2 := by
      rw [List.map_append, List.map_cons, List.map_take, List.map_drop]
    rw [eT] at T1
    have hrow : (SetTable.insertAt es (SetTable.below t.place j) (hsh knd k, Value.ref x)).toList = rowsG knd (L.take (SetTable.below t.place j) ++ (x, k) :: L.drop (SetTable.below t.place j)) := by
      rw [SetTable.toList_insertAt, R.rows]
      unfold rowsG
      rw [List.map_append, List.map_cons, List.map_take, List.map_drop]
    have pm : (L.take (SetTable.below t.place j) ++ (x, k) :: L.drop (SetTable.below t.place j)).Perm ((x, k) :: L) := by
      have := List.perm_middle (a := (x, k)) (l₁ := L.take (SetTable.below t.place j)) (l₂ := L.drop (SetTable.below t.place j))
      rw [List.take_append_drop] at this
      exact this
    have em : (t.put j).1.mask = t.mask := rfl
    have el : (t.put j).1.led = t.led := rfl
    have e2 : (t.put j).2 = SetTable.below t.place j := rfl
    generalize hpt : t.put j = pt at T1 q9 em el e2 ⊢
    obtain ⟨t1, p⟩ := pt
    dsimp only at T1 q9 em el e2 ⊢
    subst e2
    generalize SetTable.below t.place j = p at q2 T1 hrow pm ⊢
    generalize L.take p ++ (x, k) :: L.drop p = L1 at T1 hrow pm
    generalize SetTable.insertAt es p (hsh knd k, Value.ref x) = es1 at hrow ⊢
    have hlen : L1.length = L.length + 1 := pm.length_eq
    have hes : es1.size = L.length + 1 := by rw [rowsG_size hrow, hlen]
    have nd1 : (L1.map (·.2)).Nodup := by
      refine (pm.map (·.2)).nodup_iff.mpr ?_
      rw [List.map_cons]
      exact List.nodup_cons.mpr ⟨hm, R.nd⟩
    -- whatever is said of the table's plainness
    have go : ∀ t2 : SetTable, t2.mask = t1.mask → t2.led = t1.led → t2.tooFull = t1.tooFull → Tb t2 (L1.map fun p => hsh knd p.2) →
        wpAny (model P w) A (do
          storeSet a es1 t2
          if (!false && t2.tooFull) = true then setRelay a (SetTable.grown (es.size + 1))
          return true) Q E s := by
      intro t2 m2 l2 f2 T2
      refine wpAny_bind (wpAny_storeSet_of ho hd ?_ (by rw [hes, sizeLine_eq]; omega))
      have sb : Heap.SameBut a s.heap (s.heap.update a (Obj.putSet es1 t2)) := Heap.SameBut.update ..
      have ho1 := store_at (es' := es1) (t' := t2) ho hd
      generalize s.heap.update a (Obj.putSet es1 t2) = h1 at sb ho1 ⊢
      have tup1 : ∀ p ∈ L1, IsTupleKey knd h1 p.2 p.1 := fun p hp => by
        rcases List.mem_cons.mp (pm.mem_iff.mp hp) with rfl | hp
        · exact tup_other hx ho hd sb
        · exact tup_other (R.tup p hp) ho hd sb
      have ld1 : w.params.followText "set-order" = true ∨ t2.led = true := by rw [l2, el]; exact R.led
      have hfl1 : t1.tooFull = decide ((L.length + 1) * 5 ≥ t.mask * 3) := by
        unfold SetTable.tooFull
        rw [q9, em]
      by_cases hf : (L.length + 1) * 5 ≥ t.mask * 3
      · have hff : t2.tooFull = true := by rw [f2, hfl1]; exact decide_eq_true hf
        obtain ⟨M, g1, g2, g3, g4⟩ := g_grow R.tab.gm hroom hf hfew
        first
          | (refine wpAny_bind ?_; refine wp_if_pos (by simp [hff]) ?_)
          | (refine wp_if_pos (by simp [hff]) ?_; refine wpAny_bind ?_)
        rw [hsl]
        refine g_relay (s := { s with heap := h1 }) ho1 ⟨hex.1, hex.2.1, hex.2.2⟩ rfl hrow T2 (by rw [hlen, m2, em]; omega) nd1 tup1 ld1 g1 g2 g3 (by rw [hlen]; exact g4) fun h2 L2 es2 ep2 t2' sb2 R2 pm2 => ?_
        exact wpAny_pure (hQ true h2 L2 es2 ep2 t2' (sb.trans sb2) R2 (fun z => absurd z hm) fun _ => pm2.trans pm)
      · have hff : t2.tooFull = false := by rw [f2, hfl1]; exact decide_eq_false hf
        first
          | refine wp_if_neg (by simp [hff]) ?_
          | (refine wpAny_bind ?_; refine wp_if_neg (by simp [hff]) ?_; refine wpAny_pure ?_)
        refine wpAny_pure (hQ true h1 L1 es1 (ep + 1) t2 sb ⟨⟨_, ho1, ⟨hex.1, hex.2.1, hex.2.2⟩, rfl⟩, hrow, T2, nd1, tup1, ld1, ?_⟩ (fun z => absurd z hm) fun _ => pm)
        rw [hlen, m2, em]
        omega
    have Tp : Tb { t1 with plain := false } (L1.map fun p => hsh knd p.2) := ⟨T1.ris, T1.dm, T1.sz, T1.gm, T1.bd, T1.far⟩
    have both : ∀ c : Bool, wpAny (model P w) A (do
          storeSet a es1 (if c = true then t1 else { t1 with plain := false })
          if (!false && (if c = true then t1 else { t1 with plain := false }).tooFull) = true then setRelay a (SetTable.grown (es.size + 1))
          return true) Q E s := by
      intro c
      cases c with
      | true => exact go t1 rfl rfl rfl T1
      | false => exact go { t1 with plain := false } rfl rfl rfl Tp
    by_cases hpl : t1.plain = true
    · first
        | (refine wpAny_bind ?_; refine wp_if_pos hpl ?_; refine val_tup fl hx fun c => ?_; exact both c)
        | (refine wp_if_pos hpl (wpAny_bind (val_tup fl hx fun c => ?_)); exact both c)
    · first
        | (refine wpAny_bind ?_; refine wp_if_neg hpl ?_; refine wpAny_pure ?_; exact both true)
        | (refine wp_if_neg hpl (wpAny_bind (wpAny_pure ?_)); exact both true)
end
end PM
set_option Elab.async false
set_option linter.all false
set_option maxRecDepth 100000
set_option maxHeartbeats 8000000
set_option autoImplicit false
namespace PM
open PySem PySem.Spec PyProof.Rows L2
section
variable {P : Program} {w : World} {K : Type} [DecidableEq K] {knd : KeyKind P w K} {A : Around} {E : Value → Shared → Prop} {s : Shared}
/-- L: one of each key among the first i -/
structure Had (ks : List (Addr × List K)) (i : Nat) (L : List (Addr × List K)) : Prop where
  sub : ∀ p ∈ L, p ∈ ks.take i
  all : ∀ p ∈ ks.take i, p.2 ∈ L.map (·.2)
theorem Had.nil (ks : List (Addr × List K)) : Had ks 0 [] := ⟨(fun p h => by cases h), (fun p h => by simp at h)⟩
theorem Had.step {ks L L' : List (Addr × List K)} {i : Nat} {x : Addr × List K} (g : Had ks i L) (h : ks[i]? = some x) (c1 : x.2 ∈ L.map (·.2) → L' = L) (c2 : x.2 ∉ L.map (·.2) → L'.Perm (x :: L)) : Had ks (i + 1) L' := by
  have e : ks.take (i + 1) = ks.take i ++ [x] := by rw [List.take_add_one, h]; rfl
  by_cases hm : x.2 ∈ L.map (·.2)
  · rw [c1 hm]
    refine ⟨fun p hp => by rw [e]; exact List.mem_append_left _ (g.sub p hp), fun p hp => ?_⟩
    rw [e] at hp
    rcases List.mem_append.mp hp with z | z
    · exact g.all p z
    · rw [List.mem_singleton.mp z]; exact hm
  · have pm := c2 hm
    refine ⟨fun p hp => ?_, fun p hp => ?_⟩
    · rw [e]
      rcases List.mem_cons.mp (pm.mem_iff.mp hp) with rfl | z
      · exact List.mem_append_right _ (List.mem_singleton.mpr rfl)
      · exact List.mem_append_left _ (g.sub p z)
    · rw [(pm.map (·.2)).mem_iff, List.map_cons]
      rw [e] at hp
      rcases List.mem_append.mp hp with z | z
      · exact List.mem_cons_of_mem _ (g.all p z)
      · rw [List.mem_singleton.mp z]; exact List.mem_cons_self
/-- fewer than 1000 unlike keys -/
def Few (ks : List (Addr × List K)) : Prop := ∀ L : List (Addr × List K), (∀ p ∈ L, p ∈ ks) → (L.map (·.2)).Nodup → L.length < 1000
theorem SetG.keep {h h' : Heap} {a : Addr} {L : List (Addr × List K)} {es : Array (Int × Value)} {ep : Nat} {t : SetTable} (R : SetG knd h a L es ep t) (ha : ∀ o, h.get? a = some o → h'.get? a = some o) (ht : ∀ p ∈ L, IsTupleKey knd h' p.2 p.1) : SetG knd h' a L es ep t := by
  obtain ⟨o, ho, r⟩ := R.ob
  exact ⟨⟨o, ha o ho, r⟩, R.rows, R.tab, R.nd, ht, R.led, R.room⟩
theorem setG_new {h : Heap} {a : Addr} (ho : h.get? a = some { cls := .type "set", dict := none, data := .set #[] 0 (.fresh 0 0 (!w.params.followText "set-order")) }) : SetG knd h a [] #[] 0 (.fresh 0 0 (!w.params.followText "set-order")) where
  ob := ⟨_, ho, ⟨rfl, rfl, rfl⟩, rfl⟩
  rows := rfl
  tab := ⟨List.Pairwise.nil, rfl, rfl, .inl rfl, (fun x hx => by cases hx), (fun i h j hi => by simp at hi)⟩
  nd := List.nodup_nil
  tup := fun p hp => by cases hp
  led := by
    show _ ∨ (!w.params.followText "set-order") = true
    cases w.params.followText "set-order"
    · exact .inr rfl
    · exact .inl rfl
  room := by
    show 0 * 5 < 7 * 3
    decide
theorem g_update (fl : Flat knd) {I : Addr} {fp wr : List Addr} {G : Array GenState → Array GenState → Prop} {n : Nat} {Pv : Nat → Value → Prop} {St : Nat → Shared → Prop} {R : Result → Shared → Prop}
    (W : WalksS P w A.in1 I fp wr G n Pv St) (S : Addr) (hSf : S ∉ fp) (ks : List (Addr × List K)) (hn : n = ks.length) (hfew : Few ks) (hval : ∀ i v, Pv i v → ∃ p, ks[i]? = some p ∧ v = .ref p.1)
    (h0 : Heap) (hk : ∀ p ∈ ks, IsTupleKey knd h0 p.2 p.1) (hS0 : h0.get? S = none) (hw0 : ∀ b ∈ wr, h0.get? b = none) (hu : A.in1.units < cLine) :
    ∀ (m i : Nat) (s : Shared), n - i = m → i ≤ n → St i s → (∀ b o, h0.get? b = some o → s.heap.get? b = some o) → (∃ L es ep t, SetG knd s.heap S L es ep t ∧ Had ks i L) →
      (∀ s' L es ep t, Moved (S :: wr) G s s' → SetG knd s'.heap S L es ep t → Had ks n L → (∀ b o, h0.get? b = some o → s'.heap.get? b = some o) → R (.ok (.ret .none)) s') →
      codeAny (model P w) A (.builtin "set.update.loop" ⟨[.ref S, .ref I], []⟩) R s := by
  have hSw : S ∉ wr := fun h => hSf (W.sub _ h)
  have wide : ∀ b ∈ wr, b ∈ S :: wr := fun b hb => List.mem_cons_of_mem _ hb
  have stays : ∀ {s s' : Shared}, Moved wr G s s' → (∀ b o, h0.get? b = some o → s.heap.get? b = some o) → ∀ b o, h0.get? b = some o → s'.heap.get? b = some o := fun hm hkp b o e =>
    hm.heap b o (fun hb => by rw [hw0 b hb] at e; cases e) (hkp b o e)
  intro m
  induction m with
  | zero =>
    intro i s hm hi hst hkp ⟨L, es, ep, t, hS, g⟩ hR
    obtain rfl : i = n := by omega
    refine codeAny_builtin F.entry_set_update_loop ?_
    rw [Around.under_plainId F.plain_set_update_loop _]
    show wpAny _ A.in1 (pyNext (.ref I) >>= _) _ _ s
    refine wpAny_bind (W.done s _ _ hst fun s' hmv => ?_)
    show wpAny _ A.in1 (ret Value.none) _ _ s'
    have hkp' := stays hmv hkp
    exact wpAny_pure (hR s' L es ep t (hmv.mono wide) (hS.keep (fun o e => hmv.heap S o hSw e) fun p hp => tup_keep (hk p (List.mem_of_mem_take (g.sub p hp))) hkp') g hkp')
  | succ m ih =>
    intro i s hm hi hst hkp ⟨L, es, ep, t, hS, g⟩ hR
    have hlt : i < n := by omega
    refine codeAny_builtin F.entry_set_update_loop ?_
    rw [Around.under_plainId F.plain_set_update_loop _]
    show wpAny _ A.in1 (pyNext (.ref I) >>= _) _ _ s
    refine wpAny_bind (W.item i s _ _ hlt hst fun v s' hP hst' hmv => ?_)
    obtain ⟨p, hp, rfl⟩ := hval i v hP
    have hpm := List.mem_of_getElem? hp
    have hkp' := stays hmv hkp
    have hS' : SetG knd s'.heap S L es ep t := hS.keep (fun o e => hmv.heap S o hSw e) fun q hq => tup_keep (hk q (List.mem_of_mem_take (g.sub q hq))) hkp'
    have hx : IsTupleKey knd s'.heap p.2 p.1 := tup_keep (hk p hpm) hkp'
    show wpAny _ A.in1 (holding [Value.ref p.1] (setAdd S (.ref p.1)) >>= _) _ _ s'
    refine wpAny_bind (wpAny_holding ?_)
    unfold setAdd
    refine wpAny_holding ?_
    refine wpAny_bind (wpAny_pyHash_tuple hu hx ?_)
    have hroom : L.length + 1 ≤ 1000 := hfew L (fun q hq => List.mem_of_mem_take (g.sub q hq)) hS.nd
    refine g_add fl (s := { s' with toks := s'.toks + (p.2.length + 1) }) hS' hx hu hroom fun b h' L' es' ep' t' hsb hS2 c1 c2 => ?_
    have hkp2 : ∀ b o, h0.get? b = some o → h'.get? b = some o := fun b o e => (hsb.2 b (fun z => by rw [z, hS0] at e; cases e)).trans (hkp' b o e)
    refine wpAny_pure ⟨plainId_quiet F.plain_set_update_loop _, ih (i + 1) _ (by omega) hlt (W.frame _ s' _ _ hst' (Nat.le_add_right _ _) fun b hb o e => ?_) hkp2 ⟨L', es', ep', t', hS2, g.step hp c1 c2⟩ fun s'' L2 es2 ep2 t2 hm2 hS3 g3 hkp3 => ?_⟩
    · rw [hsb.2 b (fun z : b = S => hSf (by rw [← z]; exact hb))]; exact e
    · refine hR s'' L2 es2 ep2 t2 (Moved.trans W.gtrans ((hmv.mono wide).then_heap (Nat.le_add_right _ _) fun b o hb e => ?_) hm2) hS3 g3 hkp3
      rw [hsb.2 b (fun z : b = S => hb (by rw [z]; exact List.mem_cons_self))]; exact e
/-- set(a list of tuples) -/
theorem g_set (fl : Flat knd) {l : Addr} {items : Array Value} (ks : List (Addr × List K)) {Q : Value → Shared → Prop} (hh : A.handled = none) (hl : s.heap.IsList l items) (hit : items.toList = ks.map fun p => Value.ref p.1)
    (hk : ∀ p ∈ ks, IsTupleKey knd s.heap p.2 p.1) (hfew : Few ks) (hu : A.units + 3 < cLine)
    (h : ∀ (h' : Heap) (tk : Nat) L es ep t, SetG knd h' s.heap.objs.size L es ep t → Had ks ks.length L → (∀ b o, s.heap.get? b = some o → h'.get? b = some o) → Q (.ref s.heap.objs.size) { s with heap := h', toks := tk }) :
    wpAny (model P w) A (call (.type "set") [.ref l]) Q E s := by
  have hisz : items.size = ks.length := by
    have q := congrArg List.length hit
    rw [Array.length_toList, List.length_map] at q
    exact q
  obtain ⟨c, tl, hmro⟩ := F.called_set.mro
  have hmade := F.called_set.made
  have hsub := F.called_set.sub
  refine wpAny_call (codeAny_of_tree ?_)
  show wpAny _ _ (callAny (.type "set") _) _ _ _
  refine wpAny_pure ⟨Code.quiet_builtin _ (by decide +kernel), codeAny_builtin F.entry_type_call ?_⟩
  rw [Around.under_plain (weight_type_call_type "set" [.ref l] []) rfl]
  have h1 := F.called_set.notType
  have h2 := F.called_set.canCreate
  have hct := F.typeCall_set_1 (.ref l)
  repeat (any_goals (first | assumption | wp_step))
  refine codeAny_mono (code_set_led1 (.ref l) (E := E) (Q₁ := fun obj s₁ => obj = .ref s.heap.objs.size ∧ s₁ = { s with heap := s.heap.push { cls := .type "set", dict := none, data := .set #[] 0 (.fresh 0 0 (!w.params.followText "set-order")) } }) ⟨rfl, rfl⟩) fun r s₁ hr => ?_
  cases r with
  | error e => exact hr
  | ok fl1 =>
    cases fl1 with
    | ret obj =>
      obtain ⟨rfl, rfl⟩ := hr
      have hS : (s.heap.push { cls := .type "set", dict := none, data := .set #[] 0 (.fresh 0 0 (!w.params.followText "set-order")) }).get? s.heap.objs.size = some { cls := .type "set", dict := none, data := .set #[] 0 (.fresh 0 0 (!w.params.followText "set-order")) } := Heap.get?_push_size _ rfl
      have hT : Shared.TypeIs { s with heap := s.heap.push { cls := .type "set", dict := none, data := .set #[] 0 (.fresh 0 0 (!w.params.followText "set-order")) } } (.ref s.heap.objs.size) "set" := ⟨_, hS, rfl⟩
      have hli := F.called_set.init.lookup
      have hbi := F.called_set.init.bind (.ref s.heap.objs.size)
      repeat (any_goals (first | assumption | wp_step))
      refine codeAny_mono (codeAny_call_builtin (R := wants (fun r s₂ => r = .none ∧ ∃ h' tk L es ep t, s₂ = { s with heap := h', toks := tk } ∧ SetG knd h' s.heap.objs.size L es ep t ∧ Had ks ks.length L ∧
          (∀ b o, s.heap.get? b = some o → h'.get? b = some o)) E) F.called_set.init.plain F.entry_set_init (check_set_init_1 hT ?_)) fun r₂ s₂ hr₂ => ?_
      · obtain ⟨ol, hol, hcl, nl, hdl⟩ := hl
        obtain ⟨ocls, odict, odata, oslots⟩ := ol
        simp only at hcl hdl
        subst hcl; subst hdl
        have hol' : (s.heap.push { cls := .type "set", dict := none, data := .set #[] 0 (.fresh 0 0 (!w.params.followText "set-order")) }).get? l = some { cls := .type "list", dict := odict, data := .seq items nl, slots := oslots } := Heap.get?_push_of_some _ hol
        have hsls := F.sub_list_set
        have hslf := F.sub_list_frozenset
        have hne : (Value.type "list" == Value.type "dict") = false := by decide
        have hl1 : (s.heap.push { cls := .type "set", dict := none, data := .set #[] 0 (.fresh 0 0 (!w.params.followText "set-order")) }).IsList l items := ⟨_, hol', rfl, nl, rfl⟩
        unfold Builtin.«set.__init__» noKeywords Builtin.Frozenset.updateFrom
        generalize hPI : pyIter = PI
        wp_walk
        subst hPI
        refine wpAny_pyIter_list hl1 ?_
        refine wpAny_bind (wpAny_runValue ?_)
        have hlS : l < s.heap.objs.size := Heap.lt_size hol
        have hh3 : A.in1.in1.in1.handled = none := by simp [hh]
        have hneI : l ≠ (s.heap.push { cls := .type "set", dict := none, data := .set #[] 0 (.fresh 0 0 (!w.params.followText "set-order")) }).objs.size := by
          rw [Heap.size_push]; exact Nat.ne_of_lt (Nat.lt_succ_of_lt hlS)
        have hSf : s.heap.objs.size ∉ [(s.heap.push { cls := .type "set", dict := none, data := .set #[] 0 (.fresh 0 0 (!w.params.followText "set-order")) }).objs.size, l] := by
          rw [Heap.size_push]; simp only [List.mem_cons, List.not_mem_nil, or_false, not_or]
          exact ⟨Nat.ne_of_lt (Nat.lt_succ_self _), Nat.ne_of_gt hlS⟩
        have hval : ∀ (i : Nat) (v : Value), items[i]? = some v → ∃ p, ks[i]? = some p ∧ v = .ref p.1 := fun i v hv => by
          rw [← Array.getElem?_toList, hit, List.getElem?_map] at hv
          obtain ⟨p, hp, rfl⟩ := Option.map_eq_some_iff.mp hv
          exact ⟨p, hp, rfl⟩
        have none_of : ∀ b, s.heap.objs.size ≤ b → s.heap.get? b = none := fun b hb => by
          cases q : s.heap.get? b with
          | none => rfl
          | some o => exact absurd (Nat.lt_of_lt_of_le (Heap.lt_size q) hb) (Nat.lt_irrefl _)
        refine g_update fl ((Walks.list hh3 _ l hneI items).toS) s.heap.objs.size
          hSf ks hisz hfew hval s.heap hk (none_of _ (Nat.le_refl _)) (fun b hb => none_of b (by
            rw [List.mem_singleton.mp hb, Heap.size_push]; exact Nat.le_succ _)) hu (items.size - 0) 0 _ (by omega) (Nat.zero_le _)
          ⟨⟨_, Heap.get?_push_size _ rfl, rfl, rfl⟩, (hl1.push _)⟩ (fun b o e => Heap.get?_push_of_some _ (Heap.get?_push_of_some _ e)) ?hS0 ?hR
        case hS0 => exact ⟨[], #[], 0, _, setG_new (Heap.get?_push_of_some _ hS), Had.nil ks⟩
        case hR =>
          intro s' L es ep t hm hS' g' hkp
          obtain ⟨h', g2, d', tk', os'⟩ := s'
          obtain rfl : g2 = s.gens := hm.gens
          obtain rfl : d' = s.drawn := hm.drawn
          obtain rfl : os' = s.os := hm.os
          show wpAny _ _ _ _ _ _
          refine wpAny_pure ?_
          show wpAny _ _ (ret Value.none) _ _ _
          rw [hisz] at g'
          exact wpAny_pure ⟨rfl, h', tk', L, es, ep, t, rfl, hS', g', hkp⟩
      · cases r₂ with
        | error e => exact hr₂
        | ok fl₂ =>
          cases fl₂ with
          | ret r =>
            obtain ⟨rfl, h', tk, L, es, ep, t, rfl, hS', g', hk'⟩ := hr₂
            repeat (any_goals (first | assumption | wp_step))
            exact h _ _ _ _ _ _ hS' g' hk'
          | _ => exact hr₂.elim
    | _ => exact hr.elim
end
end PM
set_option Elab.async false
set_option linter.all false
set_option maxRecDepth 100000
set_option maxHeartbeats 8000000
set_option autoImplicit false
namespace PM
open PySem PySem.Spec PyProof.Rows L2
section
variable {P : Program} {w : World} {A : Around} {E : Value → Shared → Prop} {s : Shared}
abbrev TKy := List (Int ⊕ List Nat)
def keyS (k : List Str) : TKy := k.map fun s => Sum.inr s.cps.toList
abbrev txtShape : Nat → Bool := fun _ => true
theorem items_keyS {k : List Str} {vs : List Value} (h : ItemsAre (strKind P w) k vs) : ∀ i, tupItems txtShape i vs = some (keyS k) := by
  induction h with
  | nil => intro i; rfl
  | @cons c v ks vs h1 _ ih =>
    intro i
    obtain ⟨t, rfl⟩ := Value.isStrOf_shape h1
    simp only [tupItems, if_true, ih (i + 1)]
    rfl
theorem tup_keyS {h : Heap} {k : List Str} {b : Addr} (hk : IsTupleKey (strKind P w) h k b) (h0 : k ≠ []) : G.tupKeyC h txtShape (.ref b) = some (keyS k) ∧ ∃ f, TupOf h txtShape (.ref b) f := by
  obtain ⟨o, items, n, ho, hc, hd, hi⟩ := hk
  have ki := items_keyS hi 0
  constructor
  · unfold G.tupKeyC
    have hT : G.isTupObj h (.ref b) = true := by unfold G.isTupObj; simp only [ho]; rw [hc]; rfl
    rw [if_pos hT]
    unfold tupKey
    simp only [ho, hd]
    exact ki
  · generalize hx : items.toList = xs at hi
    cases hi with
    | nil => exact absurd rfl h0
    | @cons c v ks vs h1 h2 =>
      obtain ⟨t, rfl⟩ := Value.isStrOf_shape h1
      refine ⟨.str c t, b, o, items, n, rfl, ho, hc, hd, ?_, ⟨(fun hs => by cases hs), (fun hs => ⟨c, t, rfl⟩)⟩⟩
      have : items.toList[0]? = some (Value.str c t) := by rw [hx]; rfl
      rw [Array.getElem?_toList] at this
      exact this
theorem tups_keyS {h : Heap} : ∀ {L : List (Addr × List Str)}, (∀ p ∈ L, IsTupleKey (strKind P w) h p.2 p.1 ∧ p.2 ≠ []) → ∃ fs, TupsOf h txtShape (L.map fun q => Value.ref q.1) fs
  | [], _ => ⟨[], .nil⟩
  | p :: L, hL => by
    obtain ⟨h1, h2⟩ := hL p List.mem_cons_self
    obtain ⟨_, f, hf⟩ := tup_keyS h1 h2
    obtain ⟨fs, hfs⟩ := tups_keyS fun q hq => hL q (List.mem_cons_of_mem _ hq)
    exact ⟨f :: fs, .cons hf hfs⟩
theorem refs_back {L : List (Addr × List Str)} : ∀ vs : List Value, (∀ v ∈ vs, ∃ q ∈ L, v = Value.ref q.1) → ∃ L1 : List (Addr × List Str), vs = L1.map (fun q => Value.ref q.1) ∧ ∀ q ∈ L1, q ∈ L
  | [], _ => ⟨[], rfl, fun q hq => by cases hq⟩
  | v :: vs, hv => by
    obtain ⟨q, hq, rfl⟩ := hv v List.mem_cons_self
    obtain ⟨L1, rfl, hs⟩ := refs_back vs fun u hu => hv u (List.mem_cons_of_mem _ hu)
    refine ⟨q :: L1, rfl, fun r hr => ?_⟩
    rcases List.mem_cons.mp hr with rfl | z
    · exact hq
    · exact hs r z
/-- sorted(a set of tuples of texts) -/
theorem g_sorted {a : Addr} {L : List (Addr × List Str)} {es : Array (Int × Value)} {ep : Nat} {t : SetTable} {Q : Value → Shared → Prop} (R : SetG (strKind P w) s.heap a L es ep t) (hh : A.handled = none) (hne : ∀ p ∈ L, p.2 ≠ []) (hfew : L.length < 1000)
    (hQ : ∀ s' p (out : Array Value) (c : Nat) (L' : List (Addr × List Str)), (∀ b o, s.heap.get? b = some o → s'.heap.get? b = some o) → s'.gens = s.gens → s'.os = s.os → s.heap.objs.size ≤ p →
      s'.heap.get? p = some (seqObj "list" out c) → out.toList = L'.map (fun q => Value.ref q.1) → L'.Perm L → L'.Pairwise (fun q r => (listOrd itemOrd).blt (keyS r.2) (keyS q.2) = false) → Q (.ref p) s') :
    wpAny (model P w) A (call (.builtin "sorted") [.ref a]) Q E s := by
  obtain ⟨o, ho, hex, hd⟩ := R.ob
  have hsz := rowsG_size R.rows
  refine Calls.call_function_entry kind_sorted plain_sorted entry_sorted (args_sorted1 _) ?_
  unfold Builtin.«sorted»
  refine wpAny_bind (m := checkCount "sorted" 1 1 _) (wpAny_pure ?_)
  refine wpAny_bind (collect_set (A := A.in1) hh ⟨o, ho, hex.1, hd⟩ R.fits (by unfold scanBound; omega) R.tab.ris R.led fun s1 vs k1 hz g1 o1 pm => ?_)
  have hes : es.toList.map (·.2) = L.map fun q => Value.ref q.1 := by
    rw [R.rows]
    unfold rowsG
    rw [List.map_map]; rfl
  rw [hes] at pm
  have one : ∀ q ∈ L, ∀ r ∈ L, q.1 = r.1 → q = r := fun q hq r hr e => by
    have a1 := R.tup q hq
    have a2 := R.tup r hr
    rw [e] at a1
    exact Prod.ext e (a1.inj a2)
  have nL : L.Nodup := List.Pairwise.of_map (fun x => x.2) (fun _ _ hne e => hne (congrArg _ e)) R.nd
  have perm_of : ∀ L1 : List (Addr × List Str), (∀ q ∈ L1, q ∈ L) → (L1.map (fun q => Value.ref q.1)).Perm (L.map fun q => Value.ref q.1) → L1.Perm L := by
    intro L1 hs pm1
    have nref : (L.map fun q => Value.ref q.1).Nodup := by
      refine List.pairwise_map.mpr (List.Pairwise.imp_of_mem (fun {q r} hq hr hne e => ?_) nL)
      injection e with e
      exact hne (one q hq r hr e)
    have n1 : L1.Nodup := List.Pairwise.of_map (fun q => Value.ref q.1) (fun _ _ hne e => hne (by rw [e])) (pm1.nodup_iff.mpr nref)
    refine (List.perm_ext_iff_of_nodup n1 nL).mpr fun q => ⟨hs q, fun hq => ?_⟩
    obtain ⟨r, hr, e⟩ := List.mem_map.mp (pm1.mem_iff.mpr (List.mem_map.mpr ⟨q, hq, rfl⟩))
    injection e with e
    rw [← one r (hs r hr) q hq e]
    exact hr
  have hvl : vs.length = L.length := by rw [pm.length_eq, List.length_map]
  obtain ⟨L1, rfl, hs1⟩ := refs_back (L := L) vs fun v hv => by
    obtain ⟨q, hq, e⟩ := List.mem_map.mp (pm.mem_iff.mp hv)
    exact ⟨q, hq, e.symm⟩
  refine wpAny_bind (wpAny_newList ?_ (by rw [sizeLine_eq]; simp at hvl ⊢; omega))
  have hoL : (s1.heap.push (seqObj "list" (L1.map fun q => Value.ref q.1).toArray 0)).get? s1.heap.objs.size = some (seqObj "list" (L1.map fun q => Value.ref q.1).toArray 0) := Heap.get?_push_size _ rfl
  have tk : ∀ q ∈ L1, IsTupleKey (strKind P w) (s1.heap.push (seqObj "list" (L1.map fun q => Value.ref q.1).toArray 0)) q.2 q.1 ∧ q.2 ≠ [] := fun q hq => ⟨tup_keep (R.tup q (hs1 q hq)) fun b u e => Heap.get?_push_of_some _ (k1 b u e), hne q (hs1 q hq)⟩
  obtain ⟨fs, ht⟩ := tups_keyS tk
  have hkey : ∀ v, v ∈ L1.map (fun q => Value.ref q.1) → ∃ l, G.tupKeyC (s1.heap.push (seqObj "list" (L1.map fun q => Value.ref q.1).toArray 0)) txtShape v = some l := fun v hv => by
    obtain ⟨q, hq, rfl⟩ := List.mem_map.mp hv
    exact ⟨_, (tup_keyS (tk q hq).1 (tk q hq).2).1⟩
  refine wpAny_bind (wpAny_holding (wpAny_call_entry slot_list_sort ⟨_, hoL, rfl⟩ entry_list_sort (G.list_sort_tups (s := { s1 with heap := s1.heap.push (seqObj "list" (L1.map fun q => Value.ref q.1).toArray 0) }) hoL ht hkey (by rw [sizeLine_eq]; omega) fun st' a1 a2 a3 => ⟨_, rfl, ?_⟩) (args_list_sort _)))
  have hpairs : ((pairsOf (L1.map fun q => Value.ref q.1)).toList).map (·.2) = L1.map fun q => Value.ref q.1 := by
    rw [pairsOf_toList]
    have key : ∀ l : List Value, (l.zip l).map (·.2) = l := fun l => by
      induction l with
      | nil => rfl
      | cons a l ih => rw [List.zip_cons_cons, List.map_cons, ih]
    exact key _
  have hdiag : ∀ p ∈ (arrOf st').toList, p.1 = p.2 := fun p hpm => by
    have h1 := (Array.perm_iff_toList_perm.mp a1).mem_iff.mp hpm
    rw [pairsOf_toList] at h1
    have key : ∀ (l : List Value) (p : Value × Value), p ∈ l.zip l → p.1 = p.2 := fun l p h => by
      induction l with
      | nil => simp at h
      | cons a l ih =>
        rw [List.zip_cons_cons] at h
        rcases List.mem_cons.mp h with rfl | h
        · rfl
        · exact ih h
    exact key _ p h1
  have hperm : ((arrOf st').map (·.2)).toList.Perm (L1.map fun q => Value.ref q.1) := by
    have h1 := (Array.perm_iff_toList_perm.mp a1).map (·.2)
    rw [hpairs] at h1
    simpa using h1
  obtain ⟨L', e', hs'⟩ := refs_back (L := L1) ((arrOf st').map (·.2)).toList fun v hv => by
    obtain ⟨q, hq, e⟩ := List.mem_map.mp (hperm.mem_iff.mp hv)
    exact ⟨q, hq, e.symm⟩
  have pL : L'.Perm L := perm_of L' (fun q hq => hs1 q (hs' q hq)) (by rw [← e']; exact hperm.trans pm)
  have hlen' : L'.length = (arrOf st').size := by
    have := congrArg List.length e'
    simpa using this.symm
  have hsz : (pairsOf (L1.map fun q => Value.ref q.1)).size = (arrOf st').size := a1.size_eq.symm
  obtain ⟨c, hc⟩ := sortedHeap_at (vs := L1.map fun q => Value.ref q.1) (out := (arrOf st').map (·.2)) hoL
  refine wpAny_pure ⟨_, rfl, hQ _ s1.heap.objs.size ((arrOf st').map (·.2)) c L' (fun b u e => ?_) g1 o1 hz hc e' pL ?_⟩
  · have q := k1 b u e
    have hlt := Heap.lt_size q
    show (sortedHeap _ s1.heap.objs.size _ _).get? b = some u
    rw [sortedHeap_old (Nat.ne_of_lt hlt) (by rw [size_push']; exact Nat.lt_succ_of_lt hlt)]
    exact Heap.get?_push_of_some _ q
  · refine List.pairwise_iff_getElem.mpr fun i j hi hj hij => ?_
    have key_at : ∀ (n : Nat) (hn : n < L'.length), KK (G.tupKindC (s1.heap.push (seqObj "list" (L1.map fun q => Value.ref q.1).toArray 0)) txtShape) (arrOf st') n = keyS (L'[n]).2 := fun n hn => by
      have hn2 : n < (arrOf st').size := by rw [← hlen']; exact hn
      have hm : L'[n] ∈ L' := List.getElem_mem hn
      have hv : (arrOf st')[n].2 = Value.ref (L'[n]).1 := by
        have h1 : ((arrOf st').map (·.2)).toList[n]? = some (Value.ref (L'[n]).1) := by
          rw [e', List.getElem?_map, List.getElem?_eq_getElem hn]; rfl
        rw [Array.getElem?_toList, Array.getElem?_map, Array.getElem?_eq_getElem hn2] at h1
        exact Option.some.inj h1
      have hd1 : (arrOf st')[n].1 = (arrOf st')[n].2 := hdiag _ (by simp)
      unfold KK
      rw [Array.getElem?_eq_getElem hn2]
      show ((G.tupKeyC _ txtShape (arrOf st')[n].1).getD []) = _
      rw [hd1, hv, (tup_keyS (tk _ (hs' _ hm)).1 (tk _ (hs' _ hm)).2).1]; rfl
    have := a2 i j (Nat.le_of_lt hij) (by rw [hsz, ← hlen']; exact hj)
    rw [key_at i hi, key_at j hj] at this
    exact this
/-! #### for the layer -/
structure SetG0 (P : Program) (w : World) (h : Heap) (a : Addr) (L : List (Addr × List Str)) : Prop where
  ex : ∃ (es : Array (Int × Value)) (ep : Nat) (t : SetTable), (∃ o, h.get? a = some o ∧ o.ExactSet ∧ o.data = .set es ep t) ∧ es.toList = rowsG (strKind P w) L ∧ Tb t (L.map fun p => hsh (strKind P w) p.2) ∧ (L.map (·.2)).Nodup ∧
    (w.params.followText "set-order" = true ∨ t.led = true) ∧ L.length * 5 < t.mask * 3
def SetGO (P : Program) (w : World) (a : Addr) (L : List (Addr × List Str)) : HO := .ext fun h => SetG0 P w h a L
theorem SetG.g0 {h : Heap} {a : Addr} {L : List (Addr × List Str)} {es : Array (Int × Value)} {ep : Nat} {t : SetTable} (R : SetG (strKind P w) h a L es ep t) : SetG0 P w h a L :=
  ⟨es, ep, t, R.ob, R.rows, R.tab, R.nd, R.led, R.room⟩
theorem SetG0.full {h : Heap} {a : Addr} {L : List (Addr × List Str)} (R : SetG0 P w h a L) (ht : ∀ p ∈ L, IsTupleKey (strKind P w) h p.2 p.1) : ∃ es ep t, SetG (strKind P w) h a L es ep t := by
  obtain ⟨es, ep, t, h1, h2, h3, h4, h5, h6⟩ := R.ex
  exact ⟨es, ep, t, h1, h2, h3, h4, ht, h5, h6⟩
theorem setGO_new {H : Hp} {h : Heap} {a : Addr} {L : List (Addr × List Str)} (R : SetG0 P w h a L) : ObjOk P w H h a (SetGO P w a L) := by
  have ⟨es, ep, t, ⟨o, ho, r⟩, q⟩ := R.ex
  refine ⟨R, ⟨o, ho⟩, fun h1 h2 p k => ?_⟩
  have ⟨es', ep', t', ⟨o', ho', r'⟩, q'⟩ := SetG0.ex p
  exact ⟨es', ep', t', ⟨o', k o' ho', r'⟩, q'⟩
theorem items_of_txts : ∀ {k : List Str} {us : List Value}, Vals (k.map V.str) us → ItemsAre (strKind P w) k us
  | [], _, .nil => .nil
  | c :: k, _, .cons r t => by
    obtain ⟨tk, rfl⟩ := r
    exact .cons (show Value.isStrOf c (.str c tk) = true by simp [Value.isStrOf]) (items_of_txts t)
theorem refs_of_vals' : ∀ {ks : List (Addr × List Str)} {us : List Value}, Vals (ks.map fun p => V.ref p.1) us → us = ks.map fun p => Value.ref p.1
  | [], _, .nil => rfl
  | p :: ks, _, .cons r t => by
    cases r
    rw [refs_of_vals' t]; rfl
theorem vals_of_refs' : ∀ (ks : List (Addr × List Str)), Vals (ks.map fun p => V.ref p.1) (ks.map fun p => Value.ref p.1)
  | [] => .nil
  | p :: ks => .cons rfl (vals_of_refs' ks)
end
section
variable {X : Cx}
theorem inv_tup {pins : List (Addr × Obj)} {σ : L2.St} {H : Hp} {s : Shared} {b : Addr} {k : List Str} (I : Inv X pins σ H s) (h : SqT X.K H b (k.map V.str)) : IsTupleKey (strKind X.prog X.w) s.heap k b := by
  obtain ⟨its, r, ⟨o, ho, hc, n, hd⟩, _⟩ := I.tuple h
  exact ⟨o, its.toArray, n, ho, hc, hd, by simpa using items_of_txts r⟩
def rSetG (K : PySem.W.Frag) (P : Program) (w : World) : List V → Hp → VK → Prop := fun xs H Q => ∃ (l : Addr) (ks : List (Addr × List Str)), xs = [V.ref l] ∧ SqL K H l (ks.map fun p => V.ref p.1) ∧ (∀ p ∈ ks, SqT K H p.1 (p.2.map V.str)) ∧ Few ks ∧
  ∀ a L, H a = none → Had ks ks.length L → (L.map (·.2)).Nodup → Q (.ref a) (upd H a (SetGO P w a L))
theorem cr_setG (hc : X.calm = true) (hu : X.A.units + 64 < cLine) : CallR X (.type "set") (rSetG X.K X.prog X.w) := by
  intro pins s σ H xs us Q I r h
  obtain ⟨l, ks, rfl, hl, hk, hf, q⟩ := h
  rw [Vals.ref1 r]
  obtain ⟨its, rv, pl, hz⟩ := I.list hl
  have hn : H s.heap.objs.size = none := I.hok.fresh (Nat.le_refl _)
  refine g_set (knd := strKind X.prog X.w) flat_str ks (I.ok.hd hc) pl.isList (by simpa using refs_of_vals' rv) (fun p hp => inv_tup I (hk p hp)) hf (by omega) fun h' tk L es ep t R g k => ?_
  exact ⟨.ref s.heap.objs.size, upd H s.heap.objs.size (SetGO X.prog X.w s.heap.objs.size L), I.laid (t' := tk) k (Nat.le_refl _) (setGO_new R.g0), rfl, q _ L hn g R.nd⟩
def rSortedG (K : PySem.W.Frag) (P : Program) (w : World) : List V → Hp → VK → Prop := fun vs H Q => ∃ (a : Addr) (L : List (Addr × List Str)), vs = [V.ref a] ∧ H a = some (SetGO P w a L) ∧ (∀ p ∈ L, SqT K H p.1 (p.2.map V.str) ∧ p.2 ≠ []) ∧ L.length < 1000 ∧
  ∀ (L' : List (Addr × List Str)) (p : Addr), L'.Perm L → L'.Pairwise (fun q r => (listOrd itemOrd).blt (keyS r.2) (keyS q.2) = false) → H p = none → Q (.ref p) (upd H p (.lst (L'.map fun q => V.ref q.1)))
theorem cr_sortedG (hc : X.calm = true) : CallR X (.builtin "sorted") (rSortedG X.K X.prog X.w) := by
  intro pins s σ H vs us Q I r h
  obtain ⟨a, L, rfl, ha, hk, hf, q⟩ := h
  have R0 : SetG0 X.prog X.w s.heap a L := (I.hok a _ ha).1
  obtain ⟨es, ep, t, R⟩ := R0.full fun p hp => inv_tup I (hk p hp).1
  rw [Vals.ref1 r]
  refine g_sorted R (I.ok.hd hc) (fun p hp => (hk p hp).2) hf fun s' p out c L' k g o hp hg hout pm pw => ?_
  have hlen : (L'.map fun q => V.ref q.1).length ≤ sizeLine := by rw [List.length_map, pm.length_eq, sizeLine_eq]; omega
  have hn : H p = none := I.hok.fresh hp
  have hv : Vals (L'.map fun q => V.ref q.1) out.toList := by rw [hout]; exact vals_of_refs' L'
  have J : Inv X pins σ (upd H p (.lst (L'.map fun q => V.ref q.1))) { s with heap := s'.heap, gens := s'.gens, drawn := s'.drawn, toks := s'.toks } :=
    I.call (ch := []) (Un.laid k hp hn) (I.hok.laid k hp ⟨hlen, out.toList, c, hv, hg⟩) (by rw [g]; exact I.bare) (fun _ z => nomatch z)
  have e : s' = { s with heap := s'.heap, gens := s'.gens, drawn := s'.drawn, toks := s'.toks } := by
    cases s'
    cases s
    cases o
    rfl
  rw [e]
  exact ⟨.ref p, _, J, rfl, q L' p pm pw hn⟩
end
end PM
set_option Elab.async false
set_option linter.all false
set_option maxRecDepth 100000
set_option maxHeartbeats 8000000
set_option autoImplicit false
namespace PM
open PySem PySem.Spec PyProof.Rows L2
/-! ### sorted(set(a list of tuples of texts)) -/
def dOf (q : Addr × List Str) : D := .tup (q.2.map fun s => .str s.cps.toList)
theorem tx_back (s : Str) : tx s.cps.toList = s := by simp [tx]
theorem dOf_inj {q r : Addr × List Str} (h : dOf q = dOf r) : q.2 = r.2 := by
  have h : q.2.map (fun s => D.str s.cps.toList) = r.2.map (fun s => D.str s.cps.toList) := D.tup.inj h
  have key : ∀ k l : List Str, k.map (fun s => D.str s.cps.toList) = l.map (fun s => D.str s.cps.toList) → k = l := by
    intro k
    induction k with
    | nil => intro l h; cases l with
      | nil => rfl
      | cons => cases h
    | cons a k ih =>
      intro l h
      cases l with
      | nil => cases h
      | cons b l =>
        simp only [List.map_cons, List.cons.injEq, D.str.injEq] at h
        rw [ih l h.2]
        congr 1
        rw [← tx_back a, ← tx_back b, h.1]
  exact key _ _ h
theorem keyD_dOf {q : Addr × List Str} (h : q.2 ≠ []) : keyD txtShape (dOf q) = some (keyS q.2) := by
  have key : ∀ (k : List Str) (i : Nat), keyI txtShape i (k.map fun s => D.str s.cps.toList) = some (keyS k) := by
    intro k
    induction k with
    | nil => intro i; simp [keyI, keyS]
    | cons a k ih => intro i; simp only [List.map_cons, keyI, if_true, ih (i + 1)]; rfl
  cases e : q.2 with
  | nil => exact absurd e h
  | cons a k =>
    have := key (a :: k) 0
    unfold dOf
    rw [e]
    exact this
/-- what a keyed value stands for -/
theorem of_key {K : PySem.W.Frag} {F : Hp} {d : D} {v : V} {k : TK} (h : rep K F d v) (e : keyD txtShape d = some k) : ∃ q : Addr × List Str, v = .ref q.1 ∧ d = dOf q ∧ q.2 ≠ [] ∧ F q.1 = some (.tup (q.2.map V.str)) := by
  have key : ∀ (ds : List D) (vs : List V) (i : Nat) (k : TK), reps K F ds vs → keyI txtShape i ds = some k → ∃ ss : List Str, ds = ss.map (fun s => D.str s.cps.toList) ∧ vs = ss.map V.str := by
    intro ds
    induction ds with
    | nil => intro vs i k h _; exact ⟨[], rfl, h⟩
    | cons d ds ih =>
      intro vs i k h e
      obtain ⟨w, ws, rfl, a, t⟩ := h
      cases d with
      | str z =>
        obtain rfl : w = .str (tx z) := a
        simp only [keyI, if_true] at e
        obtain ⟨k', e1, _⟩ := Option.map_eq_some_iff.mp e
        obtain ⟨ss, rfl, rfl⟩ := ih ws (i + 1) k' t e1
        exact ⟨tx z :: ss, by simp [tx], rfl⟩
      | int n => simp only [keyI, if_true] at e; cases e
      | _ => simp only [keyI] at e; cases e
  cases d with
  | tup ds =>
    cases ds with
    | nil => cases e
    | cons d ds =>
      obtain ⟨p, vs, rfl, a, r⟩ := h
      obtain ⟨ss, e1, rfl⟩ := key _ _ 0 k r e
      refine ⟨(p, ss), rfl, ?_, ?_, a⟩
      · unfold dOf; rw [e1]
      · rintro rfl
        cases e1
  | _ => cases e
theorem of_keys {K : PySem.W.Frag} {F : Hp} : ∀ {ds : List D} {vs : List V}, reps K F ds vs → (∀ d ∈ ds, ∃ k, keyD txtShape d = some k) → ∃ ks : List (Addr × List Str), vs = ks.map (fun q => V.ref q.1) ∧ ds = ks.map dOf ∧ ∀ q ∈ ks, q.2 ≠ [] ∧ F q.1 = some (.tup (q.2.map V.str))
  | [], vs, h, _ => ⟨[], h, rfl, fun q hq => by cases hq⟩
  | d :: ds, vs, h, hk => by
    obtain ⟨w, ws, rfl, a, t⟩ := h
    obtain ⟨k, e⟩ := hk d List.mem_cons_self
    obtain ⟨q, rfl, rfl, h0, hf⟩ := of_key a e
    obtain ⟨ks, rfl, rfl, hq⟩ := of_keys t fun x hx => hk x (List.mem_cons_of_mem _ hx)
    refine ⟨q :: ks, rfl, rfl, fun r hr => ?_⟩
    rcases List.mem_cons.mp hr with rfl | hr
    · exact ⟨h0, hf⟩
    · exact hq r hr
theorem rep_dOf {K : PySem.W.Frag} {F : Hp} {q : Addr × List Str} (h : F q.1 = some (.tup (q.2.map V.str))) : rep K F (dOf q) (.ref q.1) := by
  refine ⟨q.1, _, rfl, h, ?_⟩
  generalize q.2 = k
  induction k with
  | nil => rfl
  | cons a k ih => exact ⟨V.str a, k.map V.str, rfl, by show V.str a = V.str (tx _); rw [tx_back], ih⟩
theorem reps_dOf {K : PySem.W.Frag} {F : Hp} : ∀ {L : List (Addr × List Str)}, (∀ q ∈ L, F q.1 = some (.tup (q.2.map V.str))) → reps K F (L.map dOf) (L.map fun q => V.ref q.1)
  | [], _ => rfl
  | q :: L, h => ⟨_, _, rfl, rep_dOf (h q List.mem_cons_self), reps_dOf fun r hr => h r (List.mem_cons_of_mem _ hr)⟩
/-- one of each -/
def nubD : List D → List D
  | [] => []
  | d :: ds => d :: (nubD ds).filter fun e => decide (keyD txtShape e ≠ keyD txtShape d)
theorem nub_sub : ∀ {ds : List D} {d : D}, d ∈ nubD ds → d ∈ ds
  | x :: ds, d, h => by
    unfold nubD at h
    rcases List.mem_cons.mp h with rfl | h
    · exact List.mem_cons_self
    · exact List.mem_cons_of_mem _ (nub_sub (List.mem_filter.mp h).1)
theorem nub_all : ∀ {ds : List D} {d : D}, (∀ x ∈ ds, ∃ k, keyD txtShape x = some k) → d ∈ ds → d ∈ nubD ds
  | x :: ds, d, hk, h => by
    unfold nubD
    rcases List.mem_cons.mp h with rfl | h
    · exact List.mem_cons_self
    · by_cases e : keyD txtShape d = keyD txtShape x
      · obtain ⟨k, hx⟩ := hk x List.mem_cons_self
        rw [hx] at e
        rw [keyD_inj e hx]
        exact List.mem_cons_self
      · exact List.mem_cons_of_mem _ (List.mem_filter.mpr ⟨nub_all (fun y hy => hk y (List.mem_cons_of_mem _ hy)) h, by simpa using e⟩)
theorem nub_nodup : ∀ {ds : List D}, (nubD ds).Nodup
  | [] => List.nodup_nil
  | d :: ds => by
    unfold nubD
    refine List.nodup_cons.mpr ⟨fun h => ?_, nub_nodup.filter _⟩
    have := (List.mem_filter.mp h).2
    simp at this
def dSortedSet (d : D) : Option T := d.lst?.bind fun xs => if keyed txtShape xs = true ∧ (nubD xs).length < 1000 then some (.fl (sortT (ltD txtShape) (nubD xs))) else none
section
variable {G : Gb} {C : Ct} {b : Bool} {e : Expr} {pos p p2 pos2 : Pos}
theorem len_le {α : Type} : ∀ {l m : List α}, l.Nodup → (∀ x ∈ l, x ∈ m) → l.length ≤ m.length := by
  intro l
  induction l with
  | nil => intro m _ _; exact Nat.zero_le _
  | cons a l ih =>
    intro m hn h
    obtain ⟨h1, h2⟩ := List.nodup_cons.mp hn
    obtain ⟨s, t, rfl⟩ := List.append_of_mem (h a List.mem_cons_self)
    have := ih (m := s ++ t) h2 fun x hx => by
      have hm := h x (List.mem_cons_of_mem _ hx)
      rw [List.mem_append, List.mem_cons] at hm
      rw [List.mem_append]
      rcases hm with hm | rfl | hm
      · exact .inl hm
      · exact absurd hx h1
      · exact .inr hm
    rw [List.length_append] at this ⊢
    rw [List.length_cons, List.length_cons]
    omega
theorem so_sortedSet {m : M D} (hx : Blt G C "sorted") (hx2 : Blt G C "set") (h : OP G C b e m) (hl : Pln e) (hl2 : Pln (.Call (.Name "set" p2) [e] [] pos2)) :
    SO G C b (.Call (.Name "sorted" p) [.Call (.Name "set" p2) [e] [] pos2] [] pos) (mUn dSortedSet m) := ⟨fun z => pu_bind (h.pu z) fun c => pu_opt, fun X ok => by
  obtain ⟨t, pe, q⟩ := h.go X ok
  have hg := ok.g
  subst hg
  have pes : PE X (.Call (.Name "set" p2) [e] [] pos2) (tCB (rSetG X.K X.prog X.w) (tCons t tNil)) :=
    pe_callTy (cr_setG ok.calm ok.room.units) (ok_gl ok hx2.1) hx2.2 rfl (pa_cons pe pa_nil (hl X.env [])) (by decide) (by decide) (hl X.env []) rfl
  have peo : PE X (.Call (.Name "sorted" p) [.Call (.Name "set" p2) [e] [] pos2] [] pos) (tCB (rSortedG X.K X.prog X.w) (tCons (tCB (rSetG X.K X.prog X.w) (tCons t tNil)) tNil)) :=
    pe_callB (cr_sortedG ok.calm) (ok_gl ok hx.1) hx.2 rfl (pa_cons pes pa_nil (hl2 X.env [])) (by decide) (by decide) (hl2 X.env []) rfl
  refine ⟨_, peo, fun ρ W σ Γ Q rl w => q ρ W σ Γ _ rl (wp_mono (wp_bind.mp w) fun d Γ1 _ w1 v W1 l1 r1 vx => ?_)⟩
  -- the worth is defined
  have hdef : ∃ xs, d.lst? = some xs ∧ keyed txtShape xs = true ∧ (nubD xs).length < 1000 := by
    obtain ⟨t0, e0, _⟩ := made_end (p := fun _ _ => True) l1 r1 w1
    obtain ⟨xs, e1, e2⟩ := Option.bind_eq_some_iff.mp e0
    split at e2
    · rename_i hh; exact ⟨xs, e1, hh.1, hh.2⟩
    · cases e2
  obtain ⟨xs, e1, hk, hfew⟩ := hdef
  obtain ⟨lp, vs, rfl, a, r⟩ := lst_vw r1.sub vx e1
  have hkey : ∀ d ∈ xs, ∃ k, keyD txtShape d = some k := fun d hd => Option.isSome_iff_exists.mp (List.all_eq_true.mp hk d hd)
  obtain ⟨ks, rfl, rfl, hks⟩ := of_keys r hkey
  have nodupD : ∀ L : List (Addr × List Str), (L.map (·.2)).Nodup → (L.map dOf).Nodup := fun L hn => by
    rw [List.Nodup, List.pairwise_map] at hn ⊢
    exact hn.imp fun h e => h (dOf_inj e)
  have inNub : ∀ q, q ∈ ks → dOf q ∈ nubD (ks.map dOf) := fun q hq => nub_all hkey (List.mem_map.mpr ⟨q, hq, rfl⟩)
  have few : Few ks := fun L hs hn => by
    have := len_le (nodupD L hn) (m := nubD (ks.map dOf)) fun x hx => by
      obtain ⟨q, hq, rfl⟩ := List.mem_map.mp hx
      exact inNub q (hs q hq)
    rw [List.length_map] at this
    omega
  refine ⟨lp, ks, rfl, a, fun p hp => .inl (.inl (r1.sub _ _ (hks p hp).2)), few, fun S L hS had nd => ?_⟩
  have hLk : ∀ p ∈ L, p ∈ ks := fun p hp => List.mem_of_mem_take (had.sub p hp)
  have hkL : ∀ p ∈ ks, p.2 ∈ L.map (·.2) := fun p hp => had.all p (by rw [List.take_length]; exact hp)
  -- the world with the set
  have l0 : Le0 W1 ⟨W1.F, upd W1.H S (SetGO X.prog X.w S L), W1.A⟩ := ⟨Sub.rfl', Sub.new hS, rfl, fun _ _ e => .inl e⟩
  have r2 := r1.more l0 (sub_upd r1.sub hS)
  obtain ⟨t0, e0, k⟩ := made_end (p := fun _ _ => True) (l1.tr (Lw.of l0)) r2 w1
  have et : t0 = .fl (sortT (ltD txtShape) (nubD (ks.map dOf))) := by
    unfold dSortedSet at e0
    rw [e1] at e0
    have e0 : (if keyed txtShape (ks.map dOf) = true ∧ (nubD (ks.map dOf)).length < 1000 then some (T.fl (sortT (ltD txtShape) (nubD (ks.map dOf)))) else none) = some t0 := e0
    rw [if_pos ⟨hk, hfew⟩] at e0
    exact (Option.some.inj e0).symm
  subst et
  refine ⟨S, L, rfl, upd_same, fun p hp => ⟨.inl (.inl ?_), (hks p (hLk p hp)).1⟩, few L hLk nd, fun L' p pm pw hp => ?_⟩
  · exact l0.fr _ _ (r1.sub _ _ (hks p (hLk p hp)).2)
  · refine k _ _ _ (.lst hp ?_)
    have eL : L'.map dOf = sortT (ltD txtShape) (nubD (ks.map dOf)) := by
      have hkn : ∀ d ∈ nubD (ks.map dOf), ∃ k, keyD txtShape d = some k := fun d hd => hkey d (nub_sub hd)
      have memL : ∀ q ∈ L', q ∈ ks := fun q hq => hLk q (pm.mem_iff.mp hq)
      have pD : (L'.map dOf).Perm (nubD (ks.map dOf)) := by
        refine (List.perm_ext_iff_of_nodup (nodupD L' ((pm.map (·.2)).nodup_iff.mpr nd)) nub_nodup).mpr fun x => ⟨fun hx => ?_, fun hx => ?_⟩
        · obtain ⟨q, hq, rfl⟩ := List.mem_map.mp hx
          exact inNub q (memL q hq)
        · obtain ⟨q, hq, rfl⟩ := List.mem_map.mp (nub_sub hx)
          obtain ⟨q2, hq2, e2⟩ := List.mem_map.mp (hkL q hq)
          refine List.mem_map.mpr ⟨q2, pm.mem_iff.mpr hq2, ?_⟩
          unfold dOf
          rw [e2]
      refine List.Perm.eq_of_pairwise (le := fun a b => ltD txtShape b a = false) (fun a b ha hb h1 h2 => ?_) ?_ (ltD_up _ hkn) (pD.trans (sortT_perm _ _).symm)
      · obtain ⟨k1, g1⟩ := hkn a (pD.mem_iff.mp ha)
        obtain ⟨k2, g2⟩ := hkn b ((sortT_perm _ _).mem_iff.mp hb)
        rw [ltD_key g2 g1] at h1
        rw [ltD_key g1 g2] at h2
        have := tupO.total k1 k2 h2 h1
        subst this
        exact keyD_inj g1 g2
      · rw [List.pairwise_map]
        refine List.Pairwise.imp_of_mem (fun {q r} hq hr h => ?_) pw
        rw [ltD_key (keyD_dOf (hks r (memL r hr)).1) (keyD_dOf (hks q (memL q hq)).1)]
        exact h
    rw [← eL]
    exact reps_dOf fun q hq => (hks q (hLk q (pm.mem_iff.mp hq))).2⟩
end
end PM
set_option Elab.async false
set_option linter.all false
set_option maxRecDepth 100000
set_option maxHeartbeats 4000000
set_option autoImplicit false
namespace PM
open PySem PySem.Spec PyProof.Rows L2
/-! ### dicts by ints and texts -/
def keyOf : D → Option Key
  | .int i => some (.inl i)
  | .str s => some (.inr (tx s))
  | _ => none
def getD' (kvs : List (Key × D)) (k : Key) : Option D := (kvs.find? fun kv => decide (kv.1 = k)).map (·.2)
def putD (kvs : List (Key × D)) (k : Key) (d : D) : List (Key × D) :=
  if (kvs.any fun kv => decide (kv.1 = k)) = true then kvs.map (fun kv => if kv.1 = k then (kv.1, d) else kv) else kvs ++ [(k, d)]
section
variable {K : PySem.W.Frag} {F H : Hp}
theorem keyOf_vw {d : D} {v : V} {k : Key} (h : vw K F H d v) (e : keyOf d = some k) : v = kV k := by
  cases d with
  | int i => cases e; exact h
  | str s => cases e; exact h
  | _ => cases e
theorem keyOf_rep {d : D} {v : V} {k : Key} (h : rep K F d v) (e : keyOf d = some k) : v = kV k := by
  cases d with
  | int i => cases e; exact h
  | str s => cases e; exact h
  | _ => cases e
theorem repk_get {k : Key} : ∀ {kvs : List (Key × D)} {ws : List (Key × V)}, repk K F kvs ws → (∀ d, getD' kvs k = some d → ∃ v, valV ws k = some v ∧ rep K F d v) ∧ (getD' kvs k = none → valV ws k = none)
  | [], ws, h => by
    rw [show ws = [] from h]
    exact ⟨(fun d e => by cases e), (fun _ => rfl)⟩
  | (f, x) :: kvs, ws, h => by
    obtain ⟨w, us, rfl, a, r⟩ := h
    have ih := repk_get (k := k) r
    by_cases q : f = k
    · subst q
      have e1 : getD' ((f, x) :: kvs) f = some x := by simp [getD', List.find?_cons]
      rw [e1, valV_pos (p := (f, w)) rfl]
      exact ⟨(fun d e => by cases e; exact ⟨w, rfl, a⟩), (fun e => by cases e)⟩
    · have e1 : getD' ((f, x) :: kvs) k = getD' kvs k := by simp [getD', List.find?_cons, q]
      rw [e1, valV_neg (p := (f, w)) q]
      exact ih
theorem repk_any {k : Key} : ∀ {kvs : List (Key × D)} {ws : List (Key × V)}, repk K F kvs ws → (kvs.any fun kv => decide (kv.1 = k)) = ws.any fun kv => decide (kv.1 = k)
  | [], ws, h => by rw [show ws = [] from h]; rfl
  | (f, x) :: kvs, ws, h => by
    obtain ⟨w, us, rfl, a, r⟩ := h
    rw [List.any_cons, List.any_cons, repk_any r]
theorem repk_map {k : Key} {d : D} {v : V} (rv : rep K F d v) : ∀ {kvs : List (Key × D)} {ws : List (Key × V)}, repk K F kvs ws → repk K F (kvs.map fun kv => if kv.1 = k then (kv.1, d) else kv) (ws.map fun kv => if kv.1 = k then (kv.1, v) else kv)
  | [], ws, h => by rw [show ws = [] from h]; rfl
  | (f, x) :: kvs, ws, h => by
    obtain ⟨w, us, rfl, a, r⟩ := h
    rw [List.map_cons, List.map_cons]
    by_cases q : f = k
    · rw [if_pos q, if_pos q]; exact ⟨v, _, rfl, rv, repk_map rv r⟩
    · rw [if_neg q, if_neg q]; exact ⟨w, _, rfl, a, repk_map rv r⟩
theorem repk_snoc {k : Key} {d : D} {v : V} (rv : rep K F d v) : ∀ {kvs : List (Key × D)} {ws : List (Key × V)}, repk K F kvs ws → repk K F (kvs ++ [(k, d)]) (ws ++ [(k, v)])
  | [], ws, h => by rw [show ws = [] from h]; exact ⟨v, [], rfl, rv, rfl⟩
  | (f, x) :: kvs, ws, h => by
    obtain ⟨w, us, rfl, a, r⟩ := h
    exact ⟨w, _, rfl, a, repk_snoc rv r⟩
theorem repk_put {k : Key} {d : D} {v : V} {kvs : List (Key × D)} {ws : List (Key × V)} (r : repk K F kvs ws) (rv : rep K F d v) : repk K F (putD kvs k d) (putK ws k v) := by
  unfold putD putK
  rw [repk_any r]
  split
  · exact repk_map rv r
  · exact repk_snoc rv r
theorem repk_len : ∀ {kvs : List (Key × D)} {ws : List (Key × V)}, repk K F kvs ws → kvs.length = ws.length
  | [], ws, h => by rw [show ws = [] from h]; rfl
  | (f, x) :: kvs, ws, h => by
    obtain ⟨w, us, rfl, a, r⟩ := h
    rw [List.length_cons, List.length_cons, repk_len r]
end
/-! #### d[k] -/
def dDget (x y : D) : Option T := match x with
  | .dK kvs => ((keyOf y).bind (getD' kvs)).map .sh
  | _ => none
section
variable {G : Gb} {C : Ct} {b : Bool} {a e : Expr} {pos p : Pos}
theorem so_dget {m : M (D × D)} (h : Two G C b a e m) (hs : NoSl e) : SO G C b (.Subscript a e pos) (mOp dDget m) := ⟨fun z => pu_bind (h.pu z) fun p => pu_opt, fun X ok => by
  obtain ⟨ta, tb, pa, pb, q⟩ := h.go X ok
  have hk := ok.g
  subst hk
  refine ⟨_, pe_dget (by have := ok.room.units; omega) pa pb hs, fun ρ W σ Γ Q rl w => q ρ W σ Γ (fun x y H2 => ∃ a v, x = .ref a ∧ DGet H2 a y (some v) ∧ Q v H2) rl (wp_mono (wp_bind.mp w) fun p Γ1 _ w1 v u W1 l1 r1 vx vy => ?_)⟩
  obtain ⟨t, e1, k⟩ := made_end (p := fun _ _ => True) l1 r1 w1
  obtain ⟨x, y⟩ := p
  unfold dDget at e1
  cases x with
  | dK kvs =>
    obtain ⟨d, e2, rfl⟩ := Option.map_eq_some_iff.mp e1
    obtain ⟨key, e3, e4⟩ := Option.bind_eq_some_iff.mp e2
    obtain ⟨p, ws, rfl, hp, r⟩ := vx
    obtain ⟨v', e5, rv⟩ := (repk_get r).1 d e4
    exact ⟨p, v', rfl, .inl ⟨ws, key, .inl hp, keyOf_vw vy e3, e5.symm⟩, k _ _ _ (.same rv)⟩
  | _ => cases e1⟩
end
/-! #### dict == dict -/
def hitsD (ls : List (Key × D)) : List (Key × D) → Bool
  | [] => true
  | (k, d) :: r => match getD' ls k with
    | none => false
    | some y => (match d.fv, y.fv with
      | some v, some u => eqV v u
      | _, _ => false) && hitsD ls r
def dEqK (x y : D) : Option Bool := match x, y with
  | .dK ks, .dK ls => if (ks.all fun p => p.2.fv.isSome) = true ∧ (ls.all fun p => p.2.fv.isSome) = true then some ((ks.length == ls.length) && hitsD ls ks) else none
  | _, _ => none
def hitsV (ls : List (Key × V)) : List (Key × V) → Bool
  | [] => true
  | (k, v) :: r => match valV ls k with
    | none => false
    | some u => eqV v u && hitsV ls r
section
variable {X : Cx}
def rEqK : R2 := fun x y H Q => ∃ a b ks ls, x = .ref a ∧ y = .ref b ∧ H a = some (.dK ks) ∧ H b = some (.dK ls) ∧ (∀ p ∈ ks, flatV p.2 = true) ∧ (∀ p ∈ ls, flatV p.2 = true) ∧ Q (.bl ((ks.length == ls.length) && hitsV ls ks)) H
theorem val_mem {κ : Type} [DecidableEq κ] {k : κ} : ∀ {ls : List (κ × V)} {v : V}, valV ls k = some v → ∃ p ∈ ls, p.2 = v
  | p :: ls, v, h => by
    by_cases q : p.1 = k
    · rw [valV_pos q] at h
      exact ⟨p, List.mem_cons_self, Option.some.inj h⟩
    · rw [valV_neg q] at h
      obtain ⟨x, hx, e⟩ := val_mem h
      exact ⟨x, List.mem_cons_of_mem _ hx, e⟩
theorem hits_of {A : Around} {s : Shared} {kvs : List (Key × V)} {vb : List (Key × Value)} (rb : KV kvs vb) (fb : ∀ p ∈ kvs, flatV p.2 = true) {ks : List (Key × V)} {va : List (Key × Value)} (ra : KV ks va) :
    (∀ p ∈ ks, flatV p.2 = true) → PySem.W.KeqHits A s vb va (hitsV kvs ks) := by
  unfold KV at ra
  induction ra with
  | nil => intro _; exact .nil
  | @cons p q ps qs h t ih =>
    intro hp
    obtain ⟨h1, h2⟩ := h
    obtain ⟨k, v⟩ := q
    obtain ⟨k', x⟩ := p
    obtain rfl : k' = k := h1
    have rr := rb.val k'
    unfold hitsV
    cases e : valV kvs k' with
    | none =>
      rw [e] at rr
      have : valueAt vb k' = none := rr.none_of
      exact .miss this
    | some u =>
      rw [e] at rr
      obtain ⟨y, hy, ry⟩ := rr.some_of
      obtain ⟨p', hm, e'⟩ := val_mem e
      have fu : flatV u = true := e' ▸ fb p' hm
      exact .hit hy (eqAt_V h2 ry (hp _ List.mem_cons_self) fu) (ih fun p' hm => hp p' (List.mem_cons_of_mem _ hm))
theorem op_eqK (hu : X.A.units < cLine) : OpR X (compareOp .Eq) rEqK := by
  intro pins s σ H x y v u Q I rx ry h
  obtain ⟨a, b, ks, ls, rfl, rfl, ea, eb, f1, f2, q⟩ := h
  obtain rfl : v = Value.ref a := rx
  obtain rfl : u = Value.ref b := ry
  obtain ⟨_, ya, va, ra, da⟩ := (show ObjOk X.prog X.w H s.heap a (.dK ks) from I.hok a _ ea)
  obtain ⟨_, yb, vb, rb, db⟩ := (show ObjOk X.prog X.w H s.heap b (.dK ls) from I.hok b _ eb)
  exact PySem.W.keq_eq (knd := mixKind X.prog X.w) (r := hitsV ls ks) ya yb da db hu (fun _ => hits_of rb f2 ra f1) (fin_bl I q (by rw [ra.length, rb.length]))
end
theorem v_eqK (K : PySem.W.Frag) : VT K dEqK rEqK := by
  intro F H dx dy x y c Q s hx hy e k
  unfold dEqK at e
  split at e
  · rename_i ks ls
    split at e
    · rename_i hf
      cases e
      obtain ⟨p, ws, rfl, hp, r⟩ := hx
      obtain ⟨p2, us, rfl, hp2, r2⟩ := hy
      have flat : ∀ {kvs : List (Key × D)} {ws : List (Key × V)}, repk K F kvs ws → (kvs.all fun p => p.2.fv.isSome) = true → ∀ p ∈ ws, flatV p.2 = true := by
        intro kvs
        induction kvs with
        | nil => intro ws h _ p hp; rw [show ws = [] from h] at hp; cases hp
        | cons q kvs ih =>
          intro ws h hf p hp
          obtain ⟨f, d⟩ := q
          obtain ⟨w, us, rfl, a, r⟩ := h
          rw [List.all_cons, Bool.and_eq_true] at hf
          obtain ⟨v0, e0⟩ := Option.isSome_iff_exists.mp hf.1
          obtain ⟨e1, e2⟩ := fv_rep a e0
          rcases List.mem_cons.mp hp with rfl | hp
          · show flatV w = true; rw [e1]; exact e2
          · exact ih r hf.2 p hp
      have same : ∀ {kvs : List (Key × D)} {ws : List (Key × V)}, repk K F kvs ws → (kvs.all fun p => p.2.fv.isSome) = true → hitsD ls kvs = hitsV us ws := by
        intro kvs
        induction kvs with
        | nil => intro ws h _; rw [show ws = [] from h]; rfl
        | cons q kvs ih =>
          intro ws h hf2
          obtain ⟨f, d⟩ := q
          obtain ⟨w, us', rfl, a, r⟩ := h
          rw [List.all_cons, Bool.and_eq_true] at hf2
          obtain ⟨v0, e0⟩ := Option.isSome_iff_exists.mp hf2.1
          obtain ⟨e1, _⟩ := fv_rep a e0
          unfold hitsD hitsV
          have g := repk_get (k := f) r2
          cases eg : getD' ls f with
          | none => rw [g.2 eg]
          | some y =>
            obtain ⟨u, eu, ru⟩ := g.1 y eg
            rw [eu]
            have hy : y.fv.isSome = true := by
              unfold getD' at eg
              obtain ⟨q2, eq2, rfl⟩ := Option.map_eq_some_iff.mp eg
              exact List.all_eq_true.mp hf.2 q2 (List.mem_of_find?_eq_some eq2)
            obtain ⟨u0, e2⟩ := Option.isSome_iff_exists.mp hy
            obtain ⟨e3, _⟩ := fv_rep ru e2
            show ((match d.fv, y.fv with | some v, some u => eqV v u | _, _ => false) && hitsD ls kvs) = (eqV w u && hitsV us us')
            rw [e0, e2, ih r hf2.2, e1, e3]
      refine ⟨p, p2, ws, us, rfl, rfl, hp, hp2, flat r hf.1, flat r2 hf.2, ?_⟩
      rw [← same r hf.1, ← repk_len r, ← repk_len r2]
      exact k
    · cases e
  · cases e
end PM
set_option Elab.async false
set_option linter.all false
set_option maxRecDepth 100000
set_option maxHeartbeats 4000000
set_option autoImplicit false
namespace PM
open PySem PySem.Spec PyProof.Rows L2
/-! ### max(list, default=i) -/
section
variable {X : Cx}
def rMaxD (K : PySem.W.Frag) : List V → List V → Hp → VK → Prop := fun xs zs H Q => ∃ (l : Addr) (ns : List Int) (d : Int), xs = [.ref l] ∧ zs = [.int d] ∧ SqL K H l (ns.map V.int) ∧ (ns = [] → Q (.int d) H) ∧ ∀ m ∈ ns, (∀ y ∈ ns, y ≤ m) → Q (.int m) H
theorem maxOf_spec : ∀ (ys : List Int) (y : Int), PySem.W.maxOf y ys ∈ y :: ys ∧ ∀ z ∈ y :: ys, z ≤ PySem.W.maxOf y ys
  | [], y => ⟨List.mem_cons_self, fun z hz => by rw [List.mem_singleton.mp hz]; exact Int.le_refl _⟩
  | x :: ys, y => by
    have e : PySem.W.maxOf y (x :: ys) = PySem.W.maxOf (if PySem.W.DatumOrd.lt y x = true then x else y) ys := rfl
    obtain ⟨h1, h2⟩ := maxOf_spec ys (if PySem.W.DatumOrd.lt y x = true then x else y)
    rw [← e] at h1 h2
    have hlt : PySem.W.DatumOrd.lt y x = decide (y < x) := rfl
    rw [hlt] at h1 h2
    have h0 := h2 _ List.mem_cons_self
    constructor
    · rcases List.mem_cons.mp h1 with h | h
      · rw [h]
        split
        · exact List.mem_cons_of_mem _ List.mem_cons_self
        · exact List.mem_cons_self
      · exact List.mem_cons_of_mem _ (List.mem_cons_of_mem _ h)
    · intro z hz
      rcases List.mem_cons.mp hz with rfl | hz
      · by_cases c : z < x
        · rw [if_pos (by simpa using c)] at h0; omega
        · rw [if_neg (by simpa using c)] at h0; exact h0
      · rcases List.mem_cons.mp hz with rfl | hz
        · by_cases c : y < z
          · rw [if_pos (by simpa using c)] at h0; exact h0
          · rw [if_neg (by simpa using c)] at h0; omega
        · exact h2 z (List.mem_cons_of_mem _ hz)
theorem cr_maxD (hc : X.calm = true) (hu : X.A.units + 64 < cLine) : CallRK X (.builtin "max") ["default"] (rMaxD X.K) := by
  intro pins s σ H xs zs us ws Q I r rz h
  obtain ⟨l, ns, d, rfl, rfl, hs, q0, q1⟩ := h
  obtain ⟨its, rv, hl, _⟩ := I.list hs
  rw [Vals.ref1 r]
  cases rz with
  | cons r1 r2 =>
    cases r2
    obtain ⟨t, rfl⟩ := r1
    refine PySem.W.max_list_datum_default (α := Int) (xs := ns) (I.ok.hd hc) hl.isList (PySem.W.HoldAll.of_ints rv.ints) (by show X.A.units + 1 + 0 < cLine; omega) (fun e h' tk hk => ⟨.int d, H, I.kept hk, ⟨t, rfl⟩, q0 e⟩) fun y ys i v h' tk e hi hv hk => ?_
    obtain ⟨as, rd⟩ := hv
    obtain ⟨m1, m2⟩ := maxOf_spec ys y
    rw [← e] at m1 m2
    generalize PySem.W.maxOf y ys = m at rd m1 m2
    have rd : Reads h' v (.int m) as := rd
    cases rd with
    | int _ t' => exact ⟨.int m, H, I.kept hk, ⟨t', rfl⟩, q1 m m1 m2⟩
end
def dMaxD (i : Int) (d : D) : Option T := (d.lst?.bind ints?).bind fun ns => if ns = [] then some (.sh (.int i)) else some (.sh (.int (maxI ns)))
section
variable {G : Gb} {C : Ct} {b : Bool} {e : Expr} {pos p kp cp : Pos}
theorem so_maxD {m : M D} {i : Int} {j : Nat} (hx : Blt G C "max") (h : OP G C b e m) (hl : Pln e)
    (h1 : ∀ env, (backToKw pos (keywordEach [⟨some "default", .Constant (.int i) j cp, kp⟩] env)).all (·.1.isSome) = true) (h2 : ∀ env, (backToKw pos (keywordEach [⟨some "default", .Constant (.int i) j cp, kp⟩] env)).any (·.1.isNone) = false) (h3 : ∀ env, (backToKw pos (keywordEach [⟨some "default", .Constant (.int i) j cp, kp⟩] env)).filterMap (·.1) = ([Str.ofString "default"] : List Str)) (h0 : ∀ env, backTo pos (starEach [e] env) = (false, eval e env) :: backTo pos (starEach [] env)) (h00 : ∀ env, (backTo pos (starEach [e] env)).any (·.1) = false) :
    SO G C b (.Call (.Name "max" p) [e] [⟨some "default", .Constant (.int i) j cp, kp⟩] pos) (mUn (dMaxD i) m) := ⟨fun z => pu_bind (h.pu z) fun c => pu_opt, fun X ok => by
  obtain ⟨t, pe, q⟩ := h.go X ok
  have hg := ok.g
  subst hg
  refine ⟨_, pe_callBK (ks := ["default"]) (cr_maxD ok.calm ok.room.units) (ok_gl ok hx.1) hx.2 rfl (pa_cons pe pa_nil (hl X.env [])) (pk_cons pe_int pk_nil) (by decide) (by decide) (h0 X.env) (h00 X.env) (h1 X.env) (h2 X.env) (h3 X.env), fun ρ W σ Γ Q rl w => q ρ W σ Γ _ rl (wp_mono (wp_bind.mp w) fun d Γ1 _ w1 v W1 l1 r1 vx => ?_)⟩
  obtain ⟨t0, e1, k⟩ := made_end (p := fun _ _ => True) l1 r1 w1
  obtain ⟨ns, e2, e4⟩ := Option.bind_eq_some_iff.mp e1
  obtain ⟨xs, e3, e5⟩ := Option.bind_eq_some_iff.mp e2
  obtain ⟨p, vs, rfl, a, r⟩ := lst_vw r1.sub vx e3
  have := ints_reps _ _ _ r e5
  subst this
  refine ⟨p, ns, i, rfl, rfl, a, fun e0 => ?_, fun m hm hy => ?_⟩
  · rw [if_pos e0] at e4
    cases e4
    exact k _ _ _ (.same rfl)
  · have hne : ns ≠ [] := fun z => by rw [z] at hm; cases hm
    rw [if_neg hne] at e4
    cases e4
    obtain ⟨g1, g2⟩ := maxI_spec hne
    have : m = maxI ns := Int.le_antisymm (g2 m hm) (hy _ g1)
    rw [this]
    exact k _ _ _ (.same rfl)⟩
end
/-! ### {k: v for ..} -/
section
variable {G : Gb} {C : Ct} {tg iter kx vx : Expr} {ifs : List Expr} {scope : Scope} {own : List (Str × Nat)} {pos : Pos}
def dcM (vs : List Nat) (tg : D → Sl → Option Sl) (mt : M Bool) (mk mv : M D) : List D → List (Key × D) → Sl → R (List (Key × D))
  | [], acc, Γ => .ok acc (wipeS vs Γ)
  | d :: ds, acc, Γ => match tg d (wipeS vs Γ) with
    | none => .stuck
    | some Γ1 => (mt Γ1).bind fun c Γ2 => if c = true then (mk Γ2).bind fun y Γ3 => (mv Γ3).bind fun z Γ4 => (match keyOf y with
      | some k => if acc.length < line then dcM vs tg mt mk mv ds (putD acc k z) Γ4 else .stuck
      | none => .stuck) else dcM vs tg mt mk mv ds acc Γ2
theorem dcM_nil (vs : List Nat) (tg : D → Sl → Option Sl) (mt : M Bool) (mk mv : M D) (acc : List (Key × D)) (Γ : Sl) : dcM vs tg mt mk mv [] acc Γ = .ok acc (wipeS vs Γ) := rfl
theorem dcM_cons (vs : List Nat) (tg : D → Sl → Option Sl) (mt : M Bool) (mk mv : M D) (d : D) (ds : List D) (acc : List (Key × D)) (Γ : Sl) : dcM vs tg mt mk mv (d :: ds) acc Γ = match tg d (wipeS vs Γ) with
    | none => .stuck
    | some Γ1 => (mt Γ1).bind fun c Γ2 => if c = true then (mk Γ2).bind fun y Γ3 => (mv Γ3).bind fun z Γ4 => (match keyOf y with
      | some k => if acc.length < line then dcM vs tg mt mk mv ds (putD acc k z) Γ4 else .stuck
      | none => .stuck) else dcM vs tg mt mk mv ds acc Γ2 := rfl
def mDc (vs : List Nat) (mi : M (List D)) (tg : D → Sl → Option Sl) (mt : M Bool) (mk mv : M D) : M T := mi.bind fun ds Γ => (dcM vs tg mt mk mv ds [] Γ).bind fun ys Γ' => .ok (T.dk ys) Γ'
@[simp] theorem mDc_ap (vs : List Nat) (mi : M (List D)) (tg : D → Sl → Option Sl) (mt : M Bool) (mk mv : M D) (Γ : Sl) : mDc vs mi tg mt mk mv Γ = (mi Γ).bind fun ds Γ1 => (dcM vs tg mt mk mv ds [] Γ1).bind fun ys Γ' => .ok (T.dk ys) Γ' := rfl
structure DcP (G : Gb) (C : Ct) (tg iter kx vx : Expr) (ifs : List Expr) (scope : Scope) (own : List (Str × Nat)) (mi : M (List D)) (mg : D → Sl → Option Sl) (mt : M Bool) (mk mv : M D) : Prop where
  ex : ∃ is, SI G C false tg iter mi ∧ ST G (blkCt C scope) tg is mg ∧ SBs G (blkCt C scope) ifs mt ∧ SE G (blkCt C scope) false kx mk ∧ SE G (blkCt C scope) false vx mv ∧ ∀ i ∈ is, i ∈ own.map (·.2)
  blk : BlkOk C.N C.sc scope own
  io : ∀ i ∈ C.io, i ∉ own.map (·.2)
/-- the loop: acc stands in D -/
structure DcI (K : PySem.W.Frag) (io : List Nat) (ρ : List (Nat × V)) (W0 : Wd) (D : Addr) (σ : L2.St) (W : Wd) (Γ : Sl) (acc : List (Key × PM.D)) : Prop where
  le : Le W0 W
  rl : Rl K io ρ W σ Γ
  nA : ∀ i, ¬ W.A i D
  nF : W.F D = none
  at_ : ∃ vs, W.H D = some (.dK vs) ∧ repk K W.F acc vs
theorem DcI.next {K : PySem.W.Frag} {io : List Nat} {ρ : List (Nat × V)} {W0 W W1 : Wd} {D : Addr} {σ σ1 : L2.St} {Γ Γ1 : Sl} {acc : List (Key × PM.D)} (h : DcI K io ρ W0 D σ W Γ acc) (l : Le W W1) (r : Rl K io ρ W1 σ1 Γ1) : DcI K io ρ W0 D σ1 W1 Γ1 acc := by
  obtain ⟨vs, e, rp⟩ := h.at_
  refine ⟨h.le.tr l, r, fun i q => ?_, ?_, vs, l.fr _ _ h.nA e, repk_sub l.ext _ _ rp⟩
  · rcases l.ft i D q with ⟨j, z⟩ | z
    · exact h.nA j z
    · rw [e] at z; cases z
  · cases z : W1.F D with
    | none => rfl
    | some o =>
      rcases l.nw D o z with q | ⟨j, q⟩ | q
      · rw [h.nF] at q; cases q
      · exact (h.nA j q).elim
      · rw [e] at q; cases q
theorem dc_run {wi : TI} {g : TG} {tt : TT} {tk tv : TE} {mi : M (List D)} {mg : D → Sl → Option Sl} {mt : M Bool} {mk mv : M D} {is vs : List Nat} {ρ : List (Nat × V)} {W : Wd} {σ : L2.St} {Γ : Sl} {Q : VK}
    (qi : ∀ ρ W σ Γ R, Rl G.K C.io ρ W σ Γ → wp (mi Γ) (fun ds Γ' => ∀ J W', Le W W' → Rl G.K C.io ρ W' σ Γ' → Yl G.K W'.F J ds → R J W'.H) → wi σ W.H R)
    (qg : ∀ ρ W σ Γ v d Γ' Q, Rl G.K C.io ρ W σ Γ → rep G.K W.F d v → mg d Γ = some Γ' → (∀ σ' W', Le W W' → W'.F = W.F → W'.H = W.H → (∀ j, j ∉ is → σ'[j]? = σ[j]?) → σ'.length = σ.length → Rl G.K C.io ρ W' σ' Γ' → Q σ' W'.H) → g v σ W.H Q)
    (qt : ∀ ρ W σ Γ Q, Rl G.K C.io ρ W σ Γ → wp (mt Γ) (fun d Γ' => ∀ W', Le W W' → Rl G.K C.io ρ W' σ Γ' → Q d W'.H) → tt σ W.H Q)
    (qk : ∀ ρ W σ Γ Q, Rl G.K C.io ρ W σ Γ → wp (mk Γ) (fun d Γ' => ∀ v W', Le W W' → Rl G.K C.io ρ W' σ Γ' → rep G.K W'.F d v → Q v W'.H) → tk σ W.H Q)
    (qv : ∀ ρ W σ Γ Q, Rl G.K C.io ρ W σ Γ → wp (mv Γ) (fun d Γ' => ∀ v W', Le W W' → Rl G.K C.io ρ W' σ Γ' → rep G.K W'.F d v → Q v W'.H) → tv σ W.H Q)
    (his : ∀ i ∈ is, i ∈ vs) (hio : ∀ i ∈ C.io, i ∉ vs) (rl : Rl G.K C.io ρ W σ Γ) (w : wp (mDc vs mi mg mt mk mv Γ) (fun t Γ' => ∀ v W' B, Le W W' → Rl G.K C.io ρ W' σ Γ' → Fre G.K false W W' t v B → Q v W'.H)) : tDc wi g tt tk tv vs σ W.H Q := by
  refine qi ρ W σ Γ _ rl (wp_mono (wp_bind.mp w) fun ds Γ1 _ w1 J W1 l1 r1 yl => ?_)
  intro D hD
  have hDF : W1.F D = none := none_of_sub r1.sub hD
  let Wd0 : Wd := ⟨W1.F, upd W1.H D (.dK []), W1.A⟩
  have l0 : Le0 W1 Wd0 := ⟨Sub.rfl', Sub.new hD, rfl, fun _ _ e => .inl e⟩
  have r0 : Rl G.K C.io ρ Wd0 σ Γ1 := r1.more l0 (sub_upd r1.sub hD)
  let Post : List (Key × PM.D) → Sl → Prop := fun acc Γ' => ∀ v W' B, Le W W' → Rl G.K C.io ρ W' σ Γ' → Fre G.K false W W' (.dk acc) v B → Q v W'.H
  have fin : ∀ (Wx : Wd) (Γx : Sl) (acc : List (Key × PM.D)), DcI G.K C.io ρ W1 D (L2.wipe σ vs) Wx Γx acc → Post acc Γx → Q (.ref D) Wx.H := by
    intro Wx Γx acc h k
    obtain ⟨us, e, rp⟩ := h.at_
    refine k (.ref D) Wx (fun a => a = D) (Le.tr l1 h.le) h.rl.unwipe ⟨⟨D, us, rfl, rfl, e, rp⟩, fun i a q z => ?_, fun a z => ?_, fun a z => ?_, fun a z => ?_, fun z => by cases z⟩
    · subst z; exact h.nA i q
    · subst z; exact h.nF
    · subst z; exact ⟨_, e⟩
    · subst z; exact Le.back l1 hD
  have w2 : wp (dcM vs mg mt mk mv ds [] Γ1) Post := wp_mono (wp_bind.mp w1) fun ys Γ' _ z => z
  refine ⟨fun i m H => m = ds.length - i ∧ i ≤ ds.length ∧ ∃ Wx Γx acc, Wx.H = H ∧ DcI G.K C.io ρ W1 D (L2.wipe σ vs) Wx (wipeS vs Γx) acc ∧ wp (dcM vs mg mt mk mv (ds.drop i) acc Γx) Post, ⟨ds.length, by simp, Nat.zero_le _, Wd0, Γ1, [], rfl, ⟨l0.le, r0.wipe hio, fun i z => ?_, hDF, [], upd_same, rfl⟩, w2⟩, ?_⟩
  · obtain ⟨o, ho⟩ := r1.alc i D z
    rw [hD] at ho; cases ho
  rintro i m H2 ⟨rfl, hi, Wx, Γx, acc, rfl, hx, wx⟩
  by_cases hlt : i < ds.length
  · rw [List.drop_eq_getElem_cons hlt, dcM_cons] at wx
    cases e1 : mg ds[i] (wipeS vs Γx) with
    | none => rw [e1] at wx; exact wx.elim
    | some Γ3 =>
      rw [e1] at wx
      have ext0 : Sub W1.F Wx.F := hx.le.ext
      refine .inr ⟨yl.go i Wx.F Wx.H ext0 hx.rl.sub hlt, fun H' => ∃ Wy Γy acc', Wy.H = H' ∧ DcI G.K C.io ρ W1 D (L2.wipe σ vs) Wy (wipeS vs Γy) acc' ∧ wp (dcM vs mg mt mk mv (ds.drop (i + 1)) acc' Γy) Post,
        fun H' ⟨Wy, Γy, acc', h1, h2, h4⟩ => ⟨ds.length - (i + 1), by omega, rfl, hlt, Wy, Γy, acc', h1, h2, h4⟩, fun x H' yy => ?_⟩
      obtain ⟨F', md⟩ := yl.yld i Wx.F Wx.H _ x H' ext0 hx.rl.sub (List.getElem?_eq_getElem hlt) yy
      obtain ⟨l3, r3, B, fr⟩ := made_ok hx.rl md
      refine qg ρ ⟨F', H', Wx.A⟩ _ (wipeS vs Γx) x ds[i] Γ3 _ r3 fr.own e1 fun σ4 W4 l4 hF hH hg hn r4 => ?_
      have hwe : L2.wipe σ4 vs = L2.wipe σ vs := wipe_eq (by rw [hn, wipe_length]) fun j hj => by rw [hg j fun z => hj (his j z), wipe_out hj]
      refine ⟨hwe, qt ρ W4 σ4 Γ3 _ r4 (wp_mono (wp_bind.mp wx) fun c Γ5 _ w5 W5 l5 r5 => ?_)⟩
      have h5 := (hx.next (l3.le.tr l4) r4).next l5 r5
      have turn : ∀ {Wy : Wd} {Γy : Sl} {acc' : List (Key × PM.D)}, DcI G.K C.io ρ W1 D σ4 Wy Γy acc' → DcI G.K C.io ρ W1 D (L2.wipe σ vs) Wy (wipeS vs Γy) acc' := fun {Wy Γy acc'} h => ⟨h.le, by rw [← hwe]; exact h.rl.wipe hio, h.nA, h.nF, h.at_⟩
      cases c with
      | false => exact iteF ⟨W5, Γ5, acc, rfl, turn h5, w5⟩
      | true =>
        refine iteT (qk ρ W5 σ4 Γ5 _ r5 (wp_mono (wp_bind.mp w5) fun yd Γ6 _ w6 yv W6 l6 r6 ry => ?_))
        have h6 := h5.next l6 r6
        refine qv ρ W6 σ4 Γ6 _ r6 (wp_mono (wp_bind.mp w6) fun zd Γ7 _ w7 zv W7 l7 r7 rz => ?_)
        have h7 := h6.next l7 r7
        have ry7 := rep_sub l7.ext _ _ ry
        obtain ⟨us, e7, rp7⟩ := h7.at_
        cases ek : keyOf yd with
        | none => rw [ek] at w7; exact w7.elim
        | some k =>
          rw [ek] at w7
          by_cases hlen : acc.length < line
          · have w7 : wp (if acc.length < line then dcM vs mg mt mk mv (ds.drop (i + 1)) (putD acc k zd) Γ7 else .stuck) Post := w7
            rw [if_pos hlen] at w7
            refine ⟨us, k, keyOf_rep ry7 ek, e7, by rw [← repk_len rp7]; exact Nat.lt_of_lt_of_le hlen (Nat.le_of_eq sizeLine_eq.symm), ?_⟩
            have r8 : Rl G.K C.io ρ ⟨W7.F, upd W7.H D (.dK (putK us k zv)), W7.A⟩ σ4 Γ7 := by
              have ne : ∀ {j a}, W7.A j a → a ≠ D := fun q z => h7.nA _ (by rw [← z]; exact q)
              refine ⟨fun a u e => ?_, r7.len, fun j t e => ?_, r7.dis, r7.nof, fun j a q => ?_, r7.fix⟩
              · show upd W7.H D _ a = some u
                rw [upd_ne (ne_of_none e h7.nF)]
                exact r7.sub a u e
              · obtain ⟨v, e2, o⟩ := r7.slot j t e
                exact ⟨v, e2, own_sub Sub.rfl' t v _ _ (fun _ q => q) (fun a x q hx => by show upd W7.H D _ a = some x; rw [upd_ne (ne q)]; exact hx) o⟩
              · obtain ⟨u, hu⟩ := r7.alc j a q
                exact ⟨u, by show upd W7.H D _ a = some u; rw [upd_ne (ne q)]; exact hu⟩
            have h8 : DcI G.K C.io ρ W1 D σ4 ⟨W7.F, upd W7.H D (.dK (putK us k zv)), W7.A⟩ Γ7 (putD acc k zd) := by
              refine ⟨⟨h7.le.ext, fun a o n h => ?_, h7.le.ft, h7.le.nw⟩, r8, h7.nA, h7.nF, _, upd_same, repk_put rp7 rz⟩
              show upd W7.H D _ a = some o
              rw [upd_ne (fun z => by rw [z, hD] at h; cases h)]
              exact h7.le.fr a o n h
            exact ⟨_, Γ7, putD acc k zd, rfl, turn h8, w7⟩
          · have w7 : wp (if acc.length < line then dcM vs mg mt mk mv (ds.drop (i + 1)) (putD acc k zd) Γ7 else .stuck) Post := w7
            rw [if_neg hlen] at w7
            exact w7.elim
  · have hi2 : i = ds.length := by omega
    subst hi2
    rw [List.drop_length, dcM_nil] at wx
    exact .inl ⟨yl.stop _ Wx.F Wx.H hx.le.ext hx.rl.sub rfl, fin Wx _ acc hx wx⟩
theorem so_dc {mi : M (List D)} {mg : D → Sl → Option Sl} {mt : M Bool} {mk mv : M D} (P : DcP G C tg iter kx vx ifs scope own mi mg mt mk mv) (hs : ∀ env x, foldedSetIterable iter env x = pure x) : SO G C false (.DictComp kx vx [⟨tg, iter, ifs, 0⟩] scope pos) (mDc (own.map (·.2)) mi mg mt mk mv) := ⟨fun z => (by cases z), fun X ok => by
  obtain ⟨is, hi, hg, ht, hk, he, his⟩ := P.ex
  obtain ⟨wi, pi, qi⟩ := hi.go X ok
  obtain ⟨g, pg, qg⟩ := blk_tg hg ok
  obtain ⟨tt, pt, qt⟩ := blk_bs ht ok
  obtain ⟨tk, pk, qk⟩ := blk_se hk ok
  obtain ⟨te, pe, qe⟩ := blk_se he ok
  refine ⟨_, pe_dc ok.calm (by rw [ok.eN]; exact ok.nd) pi (by rw [ok.eN, ok.es]; exact P.blk) pg pt pk pe (hs X.env), fun ρ W σ Γ Q rl w => ?_⟩
  exact dc_run (C := C) qi qg qt qk qe his P.io rl w⟩
theorem dcP {is : List Nat} {mi : M (List D)} {mg : D → Sl → Option Sl} {mt : M Bool} {mk mv : M D} (hi : SI G C false tg iter mi) (hg : ST G (blkCt C scope) tg is mg) (ht : SBs G (blkCt C scope) ifs mt) (hk : SE G (blkCt C scope) false kx mk) (he : SE G (blkCt C scope) false vx mv) (h : lcB C scope own is = true) :
    DcP G C tg iter kx vx ifs scope own mi mg mt mk mv := by
  unfold lcB at h
  simp only [Bool.and_eq_true] at h
  obtain ⟨h1, h2, h3⟩ := h
  refine ⟨⟨is, hi, hg, ht, hk, he, fun i hm => List.contains_iff_mem.mp (List.all_eq_true.mp h2 i hm)⟩, blkOk_by h1, fun i hm hc => ?_⟩
  have := List.all_eq_true.mp h3 i hm
  rw [List.contains_iff_mem.mpr hc] at this; cases this
theorem ok_eqK (X : Cx) (ok : OkX G C X) : OpR X (compareOp .Eq) rEqK := op_eqK (by have := ok.room.units; omega)
end
end PM
set_option Elab.async false
set_option linter.all false
set_option maxRecDepth 100000
set_option maxHeartbeats 4000000
set_option autoImplicit false
namespace PM
open PySem PySem.Spec PyProof.Rows L2
/-! ### x, y = a, b where a name is captured: by a tuple -/
theorem st_parU2 {G : Gb} {C : Ct} {x y : Str} {i j : Nat} {a1 a2 : Expr} {px py pt pt2 pos : Pos} {kt k2 : Nat} {m : M (List T)} (h : SQ G C false [a1, a2] m) (hi : C.N[i]? = some x) (hj : C.N[j]? = some y) (hx : Loc C.sc x) (hy : Loc C.sc y)
    (fx : C.fn x = true ∨ C.sc.names.lookup x = some .local) (fy : C.fn y = true ∨ C.sc.names.lookup y = some .local) (hio : ∀ k ∈ [i, j], k ∉ C.io)
    (hn : ∀ env, (assignEach [.Name x px, .Name y py] env).length = 2) (hst : ∀ env, (assignEach [.Name x px, .Name y py] env).findIdx? (·.1) = none)
    (e1 : ∀ env, (assignEach [.Name x px, .Name y py] env).map (·.2) = assign (.Name x px) env :: (assignEach [.Name y py] env).map (·.2)) (e2 : ∀ env, (assignEach [.Name y py] env).map (·.2) = assign (.Name y py) env :: (assignEach [] env).map (·.2))
    (hs : ∀ env, swapsWithSole [.Tuple [.Name x px, .Name y py] kt pt] (.Tuple [a1, a2] k2 pt2) pos.line env = pure false) (hw : ∀ env : Env, env.scope = C.sc → swappedStores [.Tuple [.Name x px, .Name y py] kt pt] (.Tuple [a1, a2] k2 pt2) env = pure none)
    (h1 : ∀ env, (assignEach [.Tuple [.Name x px, .Name y py] kt pt] env).map (·.2) = [assign (.Tuple [.Name x px, .Name y py] kt pt) env]) :
    SS G C (.Assign [.Tuple [.Name x px, .Name y py] kt pt] (.Tuple [a1, a2] k2 pt2) pos) (mSetM [i, j] m) := ⟨fun X ok => by
  obtain ⟨t, pa, q⟩ := h.go X ok
  have gx : PG X (.Name x px) (gName i) := pg_name (by rw [ok.eN]; exact ok.nd) (by rw [ok.eN]; exact hi) (by rw [ok.es]; exact hx) (by rw [ok.fn, ok.es]; exact fx)
  have gy : PG X (.Name y py) (gName j) := pg_name (by rw [ok.eN]; exact ok.nd) (by rw [ok.eN]; exact hj) (by rw [ok.es]; exact hy) (by rw [ok.fn, ok.es]; exact fy)
  have gs := pgs_cons gx (pgs_cons gy pgs_nil (e2 X.env)) (e1 X.env)
  have gt := pg_tup (k := kt) (pos := pt) ok.calm gs (hn X.env) (hst X.env)
  refine ⟨_, ps_asg (pe_tup pa) gt (hs X.env) (hw X.env ok.es) (h1 X.env), fun ρ W σ Γ E rl w => ?_⟩
  refine q ρ W σ Γ _ rl (wp_mono (wp_bind.mp w) fun ts Γ1 _ w1 vs W1 B l1 r1 f => ?_)
  split at w1
  · rename_i Γ' eΓ
    have hlen : vs.length = 2 := by
      have e3 := owns_len f.own
      match ts, eΓ with
      | [a, b], _ => exact e3.symm
      | [], eΓ => cases eΓ
      | [a], eΓ =>
        obtain ⟨_, _, e4⟩ := Option.bind_eq_some_iff.mp (show (setS i a Γ1).bind (setM [j] []) = some Γ' from eΓ)
        cases e4
      | a :: b :: c :: r, eΓ =>
        obtain ⟨_, _, e4⟩ := Option.bind_eq_some_iff.mp (show (setS i a Γ1).bind (setM [j] (b :: c :: r)) = some Γ' from eΓ)
        obtain ⟨_, _, e5⟩ := Option.bind_eq_some_iff.mp (show (setS j b _).bind (setM [] (c :: r)) = some Γ' from e4)
        cases e5
    refine ⟨by rw [hlen, sizeLine_eq]; decide, fun p hp => ?_⟩
    have l0 : Le0 W1 ⟨W1.F, upd W1.H p (.tup vs), W1.A⟩ := ⟨Sub.rfl', Sub.new hp, rfl, fun _ _ e => .inl e⟩
    have r2 := r1.more l0 (sub_upd r1.sub hp)
    have f2 : Fres G.K false W ⟨W1.F, upd W1.H p (.tup vs), W1.A⟩ ts vs B := by
      refine ⟨owns_sub Sub.rfl' ts vs B B (fun _ hB => hB) (fun a o _ h => Sub.new hp a o h) f.own, f.dis, f.nof, fun a hB => ?_, f.ft, f.nw⟩
      obtain ⟨o, ho⟩ := f.alc a hB
      exact ⟨o, Sub.new hp a o ho⟩
    obtain ⟨hl, W2, h2, l2, r3⟩ := Rl.setMany r2 (l1.tr l0.le) f2 hio eΓ
    match vs, hlen with
    | [u, v], _ =>
      refine ⟨p, [u, v], rfl, .inl (.inl upd_same), rfl, u, [v], rfl, v, [], rfl, rfl, ?_⟩
      have := w1 (setV [i, j] [u, v] σ) W2 l2 r3
      rw [h2] at this
      exact this
  · exact w1.elim⟩
theorem v_parU2 {G : Gb} {C : Ct} {x y : Str} {a1 a2 : Expr} {px py pt pt2 pos : Pos} {kt k2 : Nat} {m : M (List T)} (i j : Nat) (h : SQ G C false [a1, a2] m) (hx : tgB C i x = true) (hy : tgB C j y = true)
    (hn : ∀ env, (assignEach [.Name x px, .Name y py] env).length = 2) (hst : ∀ env, (assignEach [.Name x px, .Name y py] env).findIdx? (·.1) = none)
    (e1 : ∀ env, (assignEach [.Name x px, .Name y py] env).map (·.2) = assign (.Name x px) env :: (assignEach [.Name y py] env).map (·.2)) (e2 : ∀ env, (assignEach [.Name y py] env).map (·.2) = assign (.Name y py) env :: (assignEach [] env).map (·.2))
    (hs : ∀ env, swapsWithSole [.Tuple [.Name x px, .Name y py] kt pt] (.Tuple [a1, a2] k2 pt2) pos.line env = pure false) (hw : ∀ env : Env, env.scope = C.sc → swappedStores [.Tuple [.Name x px, .Name y py] kt pt] (.Tuple [a1, a2] k2 pt2) env = pure none)
    (h1 : ∀ env, (assignEach [.Tuple [.Name x px, .Name y py] kt pt] env).map (·.2) = [assign (.Tuple [.Name x px, .Name y py] kt pt) env]) :
    SS G C (.Assign [.Tuple [.Name x px, .Name y py] kt pt] (.Tuple [a1, a2] k2 pt2) pos) (mSetM [i, j] m) := by
  obtain ⟨x1, x2, x3, x4⟩ := tgB_ok hx
  obtain ⟨y1, y2, y3, y4⟩ := tgB_ok hy
  refine st_parU2 h x1 y1 x2 y2 x4 y4 (fun k hk => ?_) hn hst e1 e2 hs hw h1
  rcases List.mem_cons.mp hk with rfl | hk
  · exact x3
  · rw [List.mem_singleton.mp hk]; exact y3
end PM
set_option Elab.async false
set_option linter.all false
set_option maxRecDepth 100000
set_option maxHeartbeats 4000000
set_option autoImplicit false
namespace PM
open PySem PySem.Spec PyProof.Rows L2
/-! ### y = {k: v for ..}, y a local -/
section
variable {X : Cx}
theorem ps_setDc {i : Nat} {y : Str} {py : Pos} {kx vx tg iter : Expr} {ifs : List Expr} {scope : Scope} {own : List (Str × Nat)} {pos spos : Pos} {wi : TI} {g : TG} {tt : TT} {tk tv : TE} (hc : X.calm = true) (hN : X.N.Nodup) (hy : X.N[i]? = some y) (hyl : X.env.scope.names.lookup y = some .local)
    (hsw : swapsWith (.DictComp kx vx [⟨tg, iter, ifs, 0⟩] scope pos) (some (.Name y py)) spos.line X.env = pure true) (hi : PI X tg iter wi) (ok : BlkOk X.N X.env.scope scope own)
    (hg : ∀ (s : Shared) (H : Hp) (C : Addr) (cl : List (Str × Addr)) (fp : List Addr), PG (X.blk s H scope (compEnvC scope cl C X.env) fp) tg g) (ht : ∀ (s : Shared) (H : Hp) (C : Addr) (cl : List (Str × Addr)) (fp : List Addr), PTs (X.blk s H scope (compEnvC scope cl C X.env) fp) ifs tt)
    (hk : ∀ (s : Shared) (H : Hp) (C : Addr) (cl : List (Str × Addr)) (fp : List Addr), PE (X.blk s H scope (compEnvC scope cl C X.env) fp) kx tk)
    (he : ∀ (s : Shared) (H : Hp) (C : Addr) (cl : List (Str × Addr)) (fp : List Addr), PE (X.blk s H scope (compEnvC scope cl C X.env) fp) vx tv) (hs : ∀ x, foldedSetIterable iter X.env x = pure x) :
    PS X (.Assign [.Name y py] (.DictComp kx vx [⟨tg, iter, ifs, 0⟩] scope pos) spos) (tAsg (tDc wi g tt tk tv (own.map (·.2))) (gName i)) := by
  refine ⟨fun pins s σ H D I h => ?_⟩
  rw [exec_Assign_Name_used _ _ _ _ hsw]
  refine wpAny_bind (wpAny_standAt (wpAny_bind ?_))
  show wpAny _ X.A (do let _ ← comprehension (.DictComp kx vx [⟨tg, iter, ifs, 0⟩] scope pos) scope X.env (firstIterPos [⟨tg, iter, ifs, 0⟩] pos) newDict false (eval iter X.env) (some (assign (.Name y py) X.env))) _ _ s
  have h : tDc wi g tt tk tv (own.map (·.2)) σ H (fun x H1 => gName i x σ H1 D.nx) := h
  refine wpAny_bind (thn (dc_core (Qf := fun _ s' => L2.SP X pins D .next s') hc hN I hi ok hg ht hk he hs h fun L C s' m H' I' q hn f => ?_) fun _ s' hq => wpAny_pure (wpAny_pure hq))
  show wpAny _ _ (assign (.Name y py) X.env (.ref L)) _ _ _
  refine wpAny_assign_Name (store_ok2 (v := V.ref L) I' hN hy (.inl hyl) rfl (fun s2 I2 ⟨a, sb, ha⟩ => ?_) (.inr hyl))
  obtain ⟨f0, f1, f2, f3, f4, f5⟩ := f
  have haC : C ≠ a := by
    rcases ha with z | z
    · rw [z]; exact f1
    · exact fun e => f4 y a z e.symm
  exact ⟨m, hn.sameBut sb haC, fun h3 sb3 => ⟨_, H', I2.turned (t' := s2.toks) (fun b o hb e => (sb3.2 b hb).trans e) f0 f1 f3 f4 f5, q⟩⟩
theorem sw_trueD {kx vx : Expr} {gs : List Comprehension} {scope : Scope} {pos py : Pos} {y : Str} {l : Nat} {env : Env} (hk : env.scope.kind = .function) (hy : env.scope.names.lookup y = some .local) (hl : (py.line == pos.line) = true)
    (ha : (scope.names.any fun (n, k) => n == y && (k == .local || k == .cell)) = false) : swapsWith (.DictComp kx vx gs scope pos) (some (.Name y py)) l env = pure true := by
  have ky : env.kindOf y = some .local := hy
  have hb : env.blockKind = .function := by unfold Env.blockKind; rw [hk]; rfl
  unfold swapsWith
  simp only [hb, ky, ha, Expr.pos, hl]
  rfl
end
section
variable {G : Gb} {C : Ct} {tg iter kx vx : Expr} {ifs : List Expr} {scope : Scope} {own : List (Str × Nat)} {pos spos py : Pos} {y : Str}
theorem st_setDc {i : Nat} {mi : M (List D)} {mg : D → Sl → Option Sl} {mt : M Bool} {mk mv : M D} (P : DcP G C tg iter kx vx ifs scope own mi mg mt mk mv) (hs : ∀ env x, foldedSetIterable iter env x = pure x) (hN : C.N[i]? = some y) (hx : C.sc.names.lookup y = some .local) (hio : i ∉ C.io)
    (hk : C.sc.kind = .function) (hl : (py.line == pos.line) = true) (ha : (scope.names.any fun (n, k) => n == y && (k == .local || k == .cell)) = false) :
    SS G C (.Assign [.Name y py] (.DictComp kx vx [⟨tg, iter, ifs, 0⟩] scope pos) spos) (mSet i (mDc (own.map (·.2)) mi mg mt mk mv)) := ⟨fun X ok => by
  obtain ⟨is, hi, hg, ht, hkk, he, his⟩ := P.ex
  obtain ⟨wi, pi, qi⟩ := hi.go X ok
  obtain ⟨g, pg, qg⟩ := blk_tg hg ok
  obtain ⟨tt, pt, qt⟩ := blk_bs ht ok
  obtain ⟨tk, pk, qk⟩ := blk_se hkk ok
  obtain ⟨te, pe, qe⟩ := blk_se he ok
  refine ⟨_, ps_setDc ok.calm (by rw [ok.eN]; exact ok.nd) (by rw [ok.eN]; exact hN) (by rw [ok.es]; exact hx) (sw_trueD (by rw [ok.es]; exact hk) (by rw [ok.es]; exact hx) hl ha) pi (by rw [ok.eN, ok.es]; exact P.blk) pg pt pk pe (hs X.env), fun ρ W σ Γ E rl w => ?_⟩
  refine dc_run (C := C) (Q := fun x H1 => gName i x σ H1 E.nx) qi qg qt qk qe his P.io rl (wp_mono (wp_bind.mp w) fun t Γ1 _ w1 v W1 B l1 r1 f => ?_)
  unfold setS at w1
  split at w1
  · rename_i Γ' e1
    split at e1
    · rename_i hi
      cases e1
      obtain ⟨r2, l2⟩ := r1.setOwn l1 f hi hio
      exact w1 _ ⟨W1.F, W1.H, fun j a => if j = i then B a else W1.A j a⟩ l2 r2
    · cases e1
  · exact w1.elim⟩
theorem v_setDc {mi : M (List D)} {mg : D → Sl → Option Sl} {mt : M Bool} {mk mv : M D} (i : Nat) (P : DcP G C tg iter kx vx ifs scope own mi mg mt mk mv) (h : setLcB C i y scope py pos = true) (hs : ∀ env x, foldedSetIterable iter env x = pure x) :
    SS G C (.Assign [.Name y py] (.DictComp kx vx [⟨tg, iter, ifs, 0⟩] scope pos) spos) (mSet i (mDc (own.map (·.2)) mi mg mt mk mv)) := by
  unfold setLcB at h
  simp only [Bool.and_eq_true, decide_eq_true_eq, Bool.not_eq_true'] at h
  obtain ⟨h1, h2, h3, h4, h5, h6⟩ := h
  refine st_setDc P hs h1 h2 (fun m => ?_) ?_ h5 h6
  · have := List.contains_iff_mem.mpr m
    rw [h3] at this; cases this
  · split at h4
    · assumption
    · cases h4
end
/-! ### a captured target never swaps -/
theorem sw_cap {C : Ct} {e : Expr} {y : Str} {py : Pos} {l : Nat} (h : (C.sc.names.lookup y == some NameKind.local) = false) : ∀ env : Env, env.scope = C.sc → swapsWith e (some (.Name y py)) l env = pure false := fun env he => by
  have ky : (env.kindOf y == some NameKind.local) = false := by
    show (env.scope.names.lookup y == some NameKind.local) = false
    rw [he]; exact h
  unfold swapsWith
  split
  · simp only [ky, Bool.and_false, Bool.false_and]
    all_goals rfl
  · rfl
end PM


set_option Elab.async false
set_option linter.all false
set_option maxRecDepth 100000
set_option maxHeartbeats 2000000
set_option autoImplicit false

namespace PM
open PySem PySem.Spec PyProof.Rows L2 He
abbrev P : Program := PySem.Challenge.pw_wholeworths_k68_whole_delays
def fn : List DD := [ddG P "_law_well" 21, ddG P "_law_sip" 22, ddG P "_law_pick" 23, ddG P "_law_alphabet" 24, ddG P "_law_mixed" 26, ddG P "_law_leaves" 27, ddG P "_law_word" 25, ddG P "_law_words" 28, ddG P "_law_late_words" 29, ddG P "checked_signs" 9, ddG P "known" 10, ddM P "Book" "__init__" "Book.__init__" 12 0, ddG P "_law_alike" 31, ddG P "_law_delay" 32, ddP P "Book" "words" "Book.words" 12 2, ddG P "rest_of" 13, ddG P "first_rests" 14, ddG P "dangling" 15, ddG P "alike_letters" 17, ddG P "alike_behind" 18, ddG P "delay" 19, ddG P "_law_is_plain" 30, ddG P "is_plain" 16, ddP P "Book" "signs" "Book.signs" 12 1, ddP P "Book" "letters" "Book.letters" 12 3, ddM P "Book" "__len__" "Book.__len__" 12 7, ddM P "Book" "written" "Book.written" 12 4, ddM P "Book" "__eq__" "Book.__eq__" 12 8, ddG P "_law_stays" 33, ddG P "_law_asked" 34, ddG P "_law_more" 35, ddG P "law" 36]
def exL (K : PySem.W.Frag) : List Bool := [(Fa.glo "law").ok K, (Fa.cls "Book").ok K, (Fa.free "enumerate").ok K, (Fa.free "int").ok K, (Fa.free "isinstance").ok K, (Fa.free "len").ok K, (Fa.free "list").ok K, (Fa.free "max").ok K, (Fa.free "min").ok K, (Fa.free "range").ok K, (Fa.free "repr").ok K, (Fa.free "set").ok K, (Fa.free "sorted").ok K, (Fa.free "sum").ok K, (Fa.glo "Book").ok K, (Fa.glo "_law_alike").ok K, (Fa.glo "_law_alphabet").ok K, (Fa.glo "_law_asked").ok K, (Fa.glo "_law_delay").ok K, (Fa.glo "_law_is_plain").ok K, (Fa.glo "_law_late_words").ok K, (Fa.glo "_law_leaves").ok K, (Fa.glo "_law_mixed").ok K, (Fa.glo "_law_more").ok K, (Fa.glo "_law_pick").ok K, (Fa.glo "_law_sip").ok K, (Fa.glo "_law_stays").ok K, (Fa.glo "_law_well").ok K, (Fa.glo "_law_word").ok K, (Fa.glo "_law_words").ok K, (Fa.glo "alike_behind").ok K, (Fa.glo "alike_letters").ok K, (Fa.glo "checked_signs").ok K, (Fa.glo "dangling").ok K, (Fa.glo "delay").ok K, (Fa.glo "first_rests").ok K, (Fa.glo "is_plain").ok K, (Fa.glo "known").ok K, (Fa.glo "rest_of").ok K, insB K "Book", (Fa.meth "Book" "__eq__").ok K, (Fa.meth "Book" "__len__").ok K, (Fa.meth "Book" "written").ok K, (Fa.mkr "Book").ok K, (Fa.noat "Book" "_letters").ok K, (Fa.noat "Book" "_signs").ok K, (Fa.noat "Book" "_words").ok K, propB K "Book" "letters", propB K "Book" "signs", propB K "Book" "words", (Fa.str "LETTERS" "abcdefghijklmnopqrstuvwxyz").ok K]
def exB (K : PySem.W.Frag) : Bool := (exL K).all id
structure Kn (G : Gb) : Prop where
  ex : ∃ h : Heap, G.K.In h ∧ h.Ns mainGlobals G.mg ∧ SaysP exB fn G.K
theorem Kn.g_law {G : Gb} (h : Kn G) : G.mg "law" = some (.ref (He.ga G.K "law")) := by
  obtain ⟨hp, X, N, c⟩ := h.ex
  exact He.glo_ok X N (all_get (l := exL G.K) c.xx 0 rfl)
theorem Kn.c_Book {G : Gb} (h : Kn G) : Cls G.K (He.ga G.K "Book") := by
  obtain ⟨hp, X, N, c⟩ := h.ex
  exact He.cls_ok (all_get (l := exL G.K) c.xx 1 rfl)
theorem Kn.f_enumerate {G : Gb} (h : Kn G) : G.mg "enumerate" = none := by
  obtain ⟨hp, X, N, c⟩ := h.ex
  exact He.free_ok X N (all_get (l := exL G.K) c.xx 2 rfl)
theorem Kn.f_int {G : Gb} (h : Kn G) : G.mg "int" = none := by
  obtain ⟨hp, X, N, c⟩ := h.ex
  exact He.free_ok X N (all_get (l := exL G.K) c.xx 3 rfl)
theorem Kn.f_isinstance {G : Gb} (h : Kn G) : G.mg "isinstance" = none := by
  obtain ⟨hp, X, N, c⟩ := h.ex
  exact He.free_ok X N (all_get (l := exL G.K) c.xx 4 rfl)
theorem Kn.f_len {G : Gb} (h : Kn G) : G.mg "len" = none := by
  obtain ⟨hp, X, N, c⟩ := h.ex
  exact He.free_ok X N (all_get (l := exL G.K) c.xx 5 rfl)
theorem Kn.f_list {G : Gb} (h : Kn G) : G.mg "list" = none := by
  obtain ⟨hp, X, N, c⟩ := h.ex
  exact He.free_ok X N (all_get (l := exL G.K) c.xx 6 rfl)
theorem Kn.f_max {G : Gb} (h : Kn G) : G.mg "max" = none := by
  obtain ⟨hp, X, N, c⟩ := h.ex
  exact He.free_ok X N (all_get (l := exL G.K) c.xx 7 rfl)
theorem Kn.f_min {G : Gb} (h : Kn G) : G.mg "min" = none := by
  obtain ⟨hp, X, N, c⟩ := h.ex
  exact He.free_ok X N (all_get (l := exL G.K) c.xx 8 rfl)
theorem Kn.f_range {G : Gb} (h : Kn G) : G.mg "range" = none := by
  obtain ⟨hp, X, N, c⟩ := h.ex
  exact He.free_ok X N (all_get (l := exL G.K) c.xx 9 rfl)
theorem Kn.f_repr {G : Gb} (h : Kn G) : G.mg "repr" = none := by
  obtain ⟨hp, X, N, c⟩ := h.ex
  exact He.free_ok X N (all_get (l := exL G.K) c.xx 10 rfl)
theorem Kn.f_set {G : Gb} (h : Kn G) : G.mg "set" = none := by
  obtain ⟨hp, X, N, c⟩ := h.ex
  exact He.free_ok X N (all_get (l := exL G.K) c.xx 11 rfl)
theorem Kn.f_sorted {G : Gb} (h : Kn G) : G.mg "sorted" = none := by
  obtain ⟨hp, X, N, c⟩ := h.ex
  exact He.free_ok X N (all_get (l := exL G.K) c.xx 12 rfl)
theorem Kn.f_sum {G : Gb} (h : Kn G) : G.mg "sum" = none := by
  obtain ⟨hp, X, N, c⟩ := h.ex
  exact He.free_ok X N (all_get (l := exL G.K) c.xx 13 rfl)
theorem Kn.g_Book {G : Gb} (h : Kn G) : G.mg "Book" = some (.ref (He.ga G.K "Book")) := by
  obtain ⟨hp, X, N, c⟩ := h.ex
  exact He.glo_ok X N (all_get (l := exL G.K) c.xx 14 rfl)
theorem Kn.g__law_alike {G : Gb} (h : Kn G) : G.mg "_law_alike" = some (.ref (He.ga G.K "_law_alike")) := by
  obtain ⟨hp, X, N, c⟩ := h.ex
  exact He.glo_ok X N (all_get (l := exL G.K) c.xx 15 rfl)
theorem Kn.g__law_alphabet {G : Gb} (h : Kn G) : G.mg "_law_alphabet" = some (.ref (He.ga G.K "_law_alphabet")) := by
  obtain ⟨hp, X, N, c⟩ := h.ex
  exact He.glo_ok X N (all_get (l := exL G.K) c.xx 16 rfl)
theorem Kn.g__law_asked {G : Gb} (h : Kn G) : G.mg "_law_asked" = some (.ref (He.ga G.K "_law_asked")) := by
  obtain ⟨hp, X, N, c⟩ := h.ex
  exact He.glo_ok X N (all_get (l := exL G.K) c.xx 17 rfl)
theorem Kn.g__law_delay {G : Gb} (h : Kn G) : G.mg "_law_delay" = some (.ref (He.ga G.K "_law_delay")) := by
  obtain ⟨hp, X, N, c⟩ := h.ex
  exact He.glo_ok X N (all_get (l := exL G.K) c.xx 18 rfl)
theorem Kn.g__law_is_plain {G : Gb} (h : Kn G) : G.mg "_law_is_plain" = some (.ref (He.ga G.K "_law_is_plain")) := by
  obtain ⟨hp, X, N, c⟩ := h.ex
  exact He.glo_ok X N (all_get (l := exL G.K) c.xx 19 rfl)
theorem Kn.g__law_late_words {G : Gb} (h : Kn G) : G.mg "_law_late_words" = some (.ref (He.ga G.K "_law_late_words")) := by
  obtain ⟨hp, X, N, c⟩ := h.ex
  exact He.glo_ok X N (all_get (l := exL G.K) c.xx 20 rfl)
theorem Kn.g__law_leaves {G : Gb} (h : Kn G) : G.mg "_law_leaves" = some (.ref (He.ga G.K "_law_leaves")) := by
  obtain ⟨hp, X, N, c⟩ := h.ex
  exact He.glo_ok X N (all_get (l := exL G.K) c.xx 21 rfl)
theorem Kn.g__law_mixed {G : Gb} (h : Kn G) : G.mg "_law_mixed" = some (.ref (He.ga G.K "_law_mixed")) := by
  obtain ⟨hp, X, N, c⟩ := h.ex
  exact He.glo_ok X N (all_get (l := exL G.K) c.xx 22 rfl)
theorem Kn.g__law_more {G : Gb} (h : Kn G) : G.mg "_law_more" = some (.ref (He.ga G.K "_law_more")) := by
  obtain ⟨hp, X, N, c⟩ := h.ex
  exact He.glo_ok X N (all_get (l := exL G.K) c.xx 23 rfl)
theorem Kn.g__law_pick {G : Gb} (h : Kn G) : G.mg "_law_pick" = some (.ref (He.ga G.K "_law_pick")) := by
  obtain ⟨hp, X, N, c⟩ := h.ex
  exact He.glo_ok X N (all_get (l := exL G.K) c.xx 24 rfl)
theorem Kn.g__law_sip {G : Gb} (h : Kn G) : G.mg "_law_sip" = some (.ref (He.ga G.K "_law_sip")) := by
  obtain ⟨hp, X, N, c⟩ := h.ex
  exact He.glo_ok X N (all_get (l := exL G.K) c.xx 25 rfl)
theorem Kn.g__law_stays {G : Gb} (h : Kn G) : G.mg "_law_stays" = some (.ref (He.ga G.K "_law_stays")) := by
  obtain ⟨hp, X, N, c⟩ := h.ex
  exact He.glo_ok X N (all_get (l := exL G.K) c.xx 26 rfl)
theorem Kn.g__law_well {G : Gb} (h : Kn G) : G.mg "_law_well" = some (.ref (He.ga G.K "_law_well")) := by
  obtain ⟨hp, X, N, c⟩ := h.ex
  exact He.glo_ok X N (all_get (l := exL G.K) c.xx 27 rfl)
theorem Kn.g__law_word {G : Gb} (h : Kn G) : G.mg "_law_word" = some (.ref (He.ga G.K "_law_word")) := by
  obtain ⟨hp, X, N, c⟩ := h.ex
  exact He.glo_ok X N (all_get (l := exL G.K) c.xx 28 rfl)
theorem Kn.g__law_words {G : Gb} (h : Kn G) : G.mg "_law_words" = some (.ref (He.ga G.K "_law_words")) := by
  obtain ⟨hp, X, N, c⟩ := h.ex
  exact He.glo_ok X N (all_get (l := exL G.K) c.xx 29 rfl)
theorem Kn.g_alike_behind {G : Gb} (h : Kn G) : G.mg "alike_behind" = some (.ref (He.ga G.K "alike_behind")) := by
  obtain ⟨hp, X, N, c⟩ := h.ex
  exact He.glo_ok X N (all_get (l := exL G.K) c.xx 30 rfl)
theorem Kn.g_alike_letters {G : Gb} (h : Kn G) : G.mg "alike_letters" = some (.ref (He.ga G.K "alike_letters")) := by
  obtain ⟨hp, X, N, c⟩ := h.ex
  exact He.glo_ok X N (all_get (l := exL G.K) c.xx 31 rfl)
theorem Kn.g_checked_signs {G : Gb} (h : Kn G) : G.mg "checked_signs" = some (.ref (He.ga G.K "checked_signs")) := by
  obtain ⟨hp, X, N, c⟩ := h.ex
  exact He.glo_ok X N (all_get (l := exL G.K) c.xx 32 rfl)
theorem Kn.g_dangling {G : Gb} (h : Kn G) : G.mg "dangling" = some (.ref (He.ga G.K "dangling")) := by
  obtain ⟨hp, X, N, c⟩ := h.ex
  exact He.glo_ok X N (all_get (l := exL G.K) c.xx 33 rfl)
theorem Kn.g_delay {G : Gb} (h : Kn G) : G.mg "delay" = some (.ref (He.ga G.K "delay")) := by
  obtain ⟨hp, X, N, c⟩ := h.ex
  exact He.glo_ok X N (all_get (l := exL G.K) c.xx 34 rfl)
theorem Kn.g_first_rests {G : Gb} (h : Kn G) : G.mg "first_rests" = some (.ref (He.ga G.K "first_rests")) := by
  obtain ⟨hp, X, N, c⟩ := h.ex
  exact He.glo_ok X N (all_get (l := exL G.K) c.xx 35 rfl)
theorem Kn.g_is_plain {G : Gb} (h : Kn G) : G.mg "is_plain" = some (.ref (He.ga G.K "is_plain")) := by
  obtain ⟨hp, X, N, c⟩ := h.ex
  exact He.glo_ok X N (all_get (l := exL G.K) c.xx 36 rfl)
theorem Kn.g_known {G : Gb} (h : Kn G) : G.mg "known" = some (.ref (He.ga G.K "known")) := by
  obtain ⟨hp, X, N, c⟩ := h.ex
  exact He.glo_ok X N (all_get (l := exL G.K) c.xx 37 rfl)
theorem Kn.g_rest_of {G : Gb} (h : Kn G) : G.mg "rest_of" = some (.ref (He.ga G.K "rest_of")) := by
  obtain ⟨hp, X, N, c⟩ := h.ex
  exact He.glo_ok X N (all_get (l := exL G.K) c.xx 38 rfl)
theorem Kn.i_Book {G : Gb} (h : Kn G) : insB G.K "Book" = true := by
  obtain ⟨hp, X, N, c⟩ := h.ex
  exact (all_get (l := exL G.K) c.xx 39 rfl)
theorem Kn.m_Book___eq__ {G : Gb} (h : Kn G) : Meth G.K (He.ga G.K "Book") "__eq__" (He.ma G.K (He.ga G.K "Book") "__eq__") := by
  obtain ⟨hp, X, N, c⟩ := h.ex
  exact He.meth_ok (all_get (l := exL G.K) c.xx 40 rfl)
theorem Kn.m_Book___len__ {G : Gb} (h : Kn G) : Meth G.K (He.ga G.K "Book") "__len__" (He.ma G.K (He.ga G.K "Book") "__len__") := by
  obtain ⟨hp, X, N, c⟩ := h.ex
  exact He.meth_ok (all_get (l := exL G.K) c.xx 41 rfl)
theorem Kn.m_Book_written {G : Gb} (h : Kn G) : Meth G.K (He.ga G.K "Book") "written" (He.ma G.K (He.ga G.K "Book") "written") := by
  obtain ⟨hp, X, N, c⟩ := h.ex
  exact He.meth_ok (all_get (l := exL G.K) c.xx 42 rfl)
theorem Kn.k_Book {G : Gb} (h : Kn G) : Mk G.K (He.ga G.K "Book") (He.ma G.K (He.ga G.K "Book") "__init__") := by
  obtain ⟨hp, X, N, c⟩ := h.ex
  exact He.mkr_ok (all_get (l := exL G.K) c.xx 43 rfl)
theorem Kn.n_Book__letters {G : Gb} (h : Kn G) : NoAttr G.K (He.ga G.K "Book") "_letters" := by
  obtain ⟨hp, X, N, c⟩ := h.ex
  exact He.noat_ok (all_get (l := exL G.K) c.xx 44 rfl)
theorem Kn.n_Book__signs {G : Gb} (h : Kn G) : NoAttr G.K (He.ga G.K "Book") "_signs" := by
  obtain ⟨hp, X, N, c⟩ := h.ex
  exact He.noat_ok (all_get (l := exL G.K) c.xx 45 rfl)
theorem Kn.n_Book__words {G : Gb} (h : Kn G) : NoAttr G.K (He.ga G.K "Book") "_words" := by
  obtain ⟨hp, X, N, c⟩ := h.ex
  exact He.noat_ok (all_get (l := exL G.K) c.xx 46 rfl)
theorem Kn.p_Book_letters {G : Gb} (h : Kn G) : PropOf G.K (He.ga G.K "Book") "letters" (He.ma G.K (He.ga G.K "Book") "letters") (propG G.K "Book" "letters") := by
  obtain ⟨hp, X, N, c⟩ := h.ex
  exact propB_ok (all_get (l := exL G.K) c.xx 47 rfl)
theorem Kn.p_Book_signs {G : Gb} (h : Kn G) : PropOf G.K (He.ga G.K "Book") "signs" (He.ma G.K (He.ga G.K "Book") "signs") (propG G.K "Book" "signs") := by
  obtain ⟨hp, X, N, c⟩ := h.ex
  exact propB_ok (all_get (l := exL G.K) c.xx 48 rfl)
theorem Kn.p_Book_words {G : Gb} (h : Kn G) : PropOf G.K (He.ga G.K "Book") "words" (He.ma G.K (He.ga G.K "Book") "words") (propG G.K "Book" "words") := by
  obtain ⟨hp, X, N, c⟩ := h.ex
  exact propB_ok (all_get (l := exL G.K) c.xx 49 rfl)
theorem Kn.s_LETTERS {G : Gb} (h : Kn G) : ∃ t, G.mg "LETTERS" = some (.str "abcdefghijklmnopqrstuvwxyz" t) := by
  obtain ⟨hp, X, N, c⟩ := h.ex
  exact He.str_ok X N (all_get (l := exL G.K) c.xx 50 rfl)
end PM
set_option Elab.async false
set_option linter.all false
set_option maxRecDepth 100000
set_option maxHeartbeats 2000000
set_option autoImplicit false

namespace PM
open PySem PySem.Spec PyProof.Rows L2
noncomputable section
def N__law_well : List Str := ["script", "blend", "great", "prime", "k", "cell"]
def m__law_well : M Out :=
 (mSeq (mSetM [1, 2, 3] (mConsT (shM (M.pure (.int 5))) (mConsT (mLst (M.pure [])) (mConsT (mOp dAdd (mTwo (fz (mOp dPow (mTwo (M.pure (.int 10)) (M.pure (.int 38))))) (M.pure (.int 133)))) (M.pure [])))))
 (mSeq (mFor (mRng rng1 (mCons (fz (mUn dLen (mVw 0))) (M.pure []))) (tgN 4)
 (mSeq (mSet 5 (mUn dInt (fz (mOp dIx (mTwo (mVw 0) (mVw 4))))))
 (mSeq (mSet 1 (mOp dMod (mTwo (fz (mUn dInt (fz (mOp dPow (mTwo (fz (mOp dAdd (mTwo (fz (mOp dAdd (mTwo (mVw 1) (fz (mOp dMod (mTwo (fz (mUn dInt (mVw 5))) (mVw 3))))))) (fz (mOp dMul (mTwo (M.pure (.int 15485863)) (mVw 4))))))) (M.pure (.int 3))))))) (mVw 3))))
 (mIfS (mTe dGe (mTwo (mVw 5) (fz (mOp dPow (mTwo (M.pure (.int 10)) (M.pure (.int 18)))))))
 (mDrop (mMut 2 [] fApp (mCons (fz (mOp dSub (mTwo (mVw 5) (fz (mOp dPow (mTwo (M.pure (.int 10)) (M.pure (.int 18)))))))) (M.pure []))))
 (M.pure .nx)))))
 (mRet (mBx (mConsT (mMv 2) (mConsT (shM (mVar 1)) (mConsT (shM (M.pure (.int 0))) (M.pure []))))))))
def N__law_sip : List Str := ["well", "many", "found", "stir"]
def m__law_sip : M Out :=
 (mSeq (mIfS (mTe dGt (mTwo (fz (mUn dLen (mVwAt 0 [.ix 0]))) (M.pure (.int 0))))
 (mSeq (mSet 2 (mOp dMod (mTwo (fz (mUn dInt (fz (mOp dIx (mTwo (mVwAt 0 [.ix 0]) (M.pure (.int 0))))))) (mVw 1))))
 (mSeq (mSetIx 0 [.ix 0] (fz (mOp dDiv (mTwo (fz (mUn dInt (fz (mOp dIx (mTwo (mVwAt 0 [.ix 0]) (M.pure (.int 0))))))) (mVw 1)))) (M.pure (.int 0)))
 (mSeq (mIfS (mTe dEq (mTwo (fz (mOp dIx (mTwo (mVwAt 0 [.ix 0]) (M.pure (.int 0))))) (M.pure (.int 0))))
 (mDrop (mMut 0 [.ix 0] fPop (mCons (M.pure (.int 0)) (M.pure []))))
 (M.pure .nx))
 (mRet (shM (mVar 2))))))
 (M.pure .nx))
 (mSeq (mSetIx 0 [] (fz (mOp dAdd (mTwo (mVwAt 0 [.ix 2]) (M.pure (.int 1))))) (M.pure (.int 2)))
 (mSeq (mSet 3 (mOp dMod (mTwo (fz (mUn dInt (fz (mOp dPow (mTwo (fz (mOp dAdd (mTwo (mVwAt 0 [.ix 1]) (fz (mOp dMul (mTwo (M.pure (.int 86028121)) (mVwAt 0 [.ix 2]))))))) (M.pure (.int 3))))))) (fz (mOp dAdd (mTwo (fz (mOp dPow (mTwo (M.pure (.int 10)) (M.pure (.int 41))))) (M.pure (.int 109))))))))
 (mSeq (mSet 3 (mOp dMod (mTwo (fz (mUn dInt (fz (mOp dPow (mTwo (fz (mOp dAdd (mTwo (mVw 3) (fz (mOp dMul (mTwo (fz (mOp dMul (mTwo (M.pure (.int 32452843)) (mVwAt 0 [.ix 2])))) (mVwAt 0 [.ix 2]))))))) (M.pure (.int 3))))))) (fz (mOp dAdd (mTwo (fz (mOp dPow (mTwo (M.pure (.int 10)) (M.pure (.int 36))))) (M.pure (.int 67))))))))
 (mRet (mOp dMod (mTwo (fz (mUn dInt (fz (mOp dDiv (mTwo (mVw 3) (fz (mOp dPow (mTwo (M.pure (.int 10)) (M.pure (.int 7)))))))))) (mVw 1))))))))
def N__law_pick : List Str := ["well", "some"]
def m__law_pick : M Out :=
 (mRet (mOp dIx (mTwo (mVar 1) (fz (mCall 4 m__law_sip [some 0, none] (mLent 0 (mCons (fz (mUn dLen (mVw 1))) (M.pure []))))))))
def N__law_alphabet : List Str := ["well", "many", "pool", "found", "k", "spot"]
def m__law_alphabet : M Out :=
 (mSeq (mSetM [2, 3] (mConsT (mCall 2 m__law_pick [some 0, none] (mLent 0 (mCons (fz (mLst (mCons (M.pure (.str [97, 98, 99, 100, 101, 102, 103, 104, 105, 106, 107, 108, 109, 110, 111, 112, 113, 114, 115, 116, 117, 118, 119, 120, 121, 122])) (mCons (M.pure (.str [97, 98, 99, 100, 101, 102, 103])) (mCons (M.pure (.str [116, 117, 118, 119, 120, 121, 122])) (M.pure [])))))) (M.pure [])))) (mConsT (shM (M.pure (.str []))) (M.pure []))))
 (mSeq (mFor (mRng rng1 (mCons (mVar 1) (M.pure []))) (tgN 4)
 (mSeq (mSet 5 (mCall 4 m__law_sip [some 0, none] (mLent 0 (mCons (fz (mUn dLen (mVw 2))) (M.pure [])))))
 (mSeq (mSet 3 (mOp dAdd (mTwo (mVw 3) (fz (mOp dIx (mTwo (mVw 2) (mVw 5)))))))
 (mSet 2 (mOp dAdd (mTwo (fz (mSl (mVw 2) (fun _ => some none) (mPart (mVar 5)))) (fz (mSl (mVw 2) (mPart (fz (mOp dAdd (mTwo (mVw 5) (M.pure (.int 1)))))) (fun _ => some none)))))))))
 (mRet (mOp dJoin (mTwo (M.pure (.str [])) (fz (mUn dSorted (mVw 3))))))))
def N__law_mixed : List Str := ["well", "some", "left", "found", "k"]
def m__law_mixed : M Out :=
 (mSeq (mSetM [2, 3] (mConsT (mUn dList (mVw 1)) (mConsT (mLst (M.pure [])) (M.pure []))))
 (mSeq (mFor (mRng rng1 (mCons (fz (mUn dLen (mVw 1))) (M.pure []))) (tgN 4)
 (mDrop (mMut 3 [] fApp (mCons (fz (mMut 2 [] fPop (mCons (fz (mCall 4 m__law_sip [some 0, none] (mLent 0 (mCons (fz (mUn dLen (mVw 2))) (M.pure []))))) (M.pure [])))) (M.pure [])))))
 (mRet (mMv 3))))
def N__law_leaves : List Str := ["well", "abc", "cap", "most", "found", "k", "spot", "letter"]
def m__law_leaves : M Out :=
 (mSeq (mSet 4 (mUn dList (mVw 1)))
 (mSeq (mFor (mRng rng1 (mCons (fz (mCall 4 m__law_sip [some 0, none] (mLent 0 (mCons (M.pure (.int 5)) (M.pure []))))) (M.pure []))) (tgN 5)
 (mSeq (mSet 6 (mCall 4 m__law_sip [some 0, none] (mLent 0 (mCons (fz (mUn dLen (mVw 4))) (M.pure [])))))
 (mIfS (mAnd (mTe dLt (mTwo (fz (mUn dLen (fz (mOp dIx (mTwo (mVw 4) (mVw 6)))))) (mVw 3))) (mTe dLe (mTwo (fz (mOp dAdd (mTwo (fz (mUn dLen (mVw 4))) (fz (mUn dLen (mVw 1)))))) (fz (mOp dAdd (mTwo (mVw 2) (M.pure (.int 1))))))))
 (mSet 4 (mOp dAdd (mTwo (fz (mOp dAdd (mTwo (fz (mSl (mVw 4) (fun _ => some none) (mPart (mVar 6)))) (fz (mLc [7] (mIt (mVar 1)) (tgN 7) (M.pure true) (fz (mOp dAdd (mTwo (fz (mOp dIx (mTwo (mVw 4) (mVw 6)))) (mVw 7))))))))) (fz (mSl (mVw 4) (mPart (fz (mOp dAdd (mTwo (mVw 6) (M.pure (.int 1)))))) (fun _ => some none))))))
 (M.pure .nx))))
 (mSeq (mSet 4 (mSl (fz (mCall 5 m__law_mixed [some 0, none] (mLent 0 (mCons (mFz 4) (M.pure []))))) (fun _ => some none) (mPart (mVar 2))))
 (mRet (mIf (mAnd (mTe dGt (mTwo (fz (mUn dLen (mVw 4))) (M.pure (.int 1)))) (mTe dEq (mTwo (fz (mCall 4 m__law_sip [some 0, none] (mLent 0 (mCons (M.pure (.int 3)) (M.pure []))))) (M.pure (.int 0))))) (mSl (mVw 4) (mPart (M.pure (.int 1))) (fun _ => some none)) (mMv 4))))))
def N__law_word : List Str := ["well", "abc", "least", "most", "k"]
def m__law_word : M Out :=
 (mRet (mOp dJoin (mTwo (M.pure (.str [])) (fz (mLc [4] (mRng rng1 (mCons (fz (mOp dAdd (mTwo (mVar 2) (fz (mCall 4 m__law_sip [some 0, none] (mLent 0 (mCons (fz (mOp dAdd (mTwo (fz (mOp dSub (mTwo (mVw 3) (mVw 2)))) (M.pure (.int 1))))) (M.pure [])))))))) (M.pure []))) (tgN 4) (M.pure true) (fz (mCall 2 m__law_pick [some 0, none] (mLent 0 (mCons (mVar 1) (M.pure []))))))))))
def N__law_words : List Str := ["well", "abc", "cap", "most", "way", "found", "many", "size", "pieces", "rows", "word", "k", "j", "parts"]
def m__law_words : M Out :=
 (mSeq (mSet 4 (mCall 4 m__law_sip [some 0, none] (mLent 0 (mCons (M.pure (.int 8)) (M.pure [])))))
 (mSeq (mIfS (mTe dIn (mTwo (mVw 4) (fz (mTup (mCons (M.pure (.int 1)) (mCons (M.pure (.int 2)) (M.pure [])))))))
 (mSeq (mSet 5 (mCall 8 m__law_leaves [some 0, none, none, none] (mLent 0 (mCons (mVar 1) (mCons (mVar 2) (mCons (mVar 3) (M.pure [])))))))
 (mRet (mIf (mTe dEq (mTwo (mVw 4) (M.pure (.int 1)))) (mMv 5) (mLc [10] (mIt (mFz 5)) (tgN 10) (M.pure true) (fz (mUn dRev (mVw 10)))))))
 (M.pure .nx))
 (mSeq (mSet 6 (mOp dAdd (mTwo (M.pure (.int 1)) (fz (mCall 4 m__law_sip [some 0, none] (mLent 0 (mCons (mVar 2) (M.pure []))))))))
 (mSeq (mIfS (mTe dIn (mTwo (mVw 4) (fz (mTup (mCons (M.pure (.int 3)) (mCons (M.pure (.int 4)) (M.pure [])))))))
 (mSeq (mSet 7 (mOp dAdd (mTwo (M.pure (.int 1)) (fz (mCall 4 m__law_sip [some 0, none] (mLent 0 (mCons (M.pure (.int 2)) (M.pure []))))))))
 (mSeq (mSet 8 (mLc [11] (mRng rng1 (mCons (fz (mOp dSub (mTwo (mVw 4) (M.pure (.int 2))))) (M.pure []))) (tgN 11) (M.pure true) (fz (mCall 5 m__law_word [some 0, none, none, none] (mLent 0 (mCons (mVar 1) (mCons (M.pure (.int 1)) (mCons (mVar 7) (M.pure [])))))))))
 (mSeq (mSet 9 (mLc [11] (mRng rng1 (mCons (mVar 6) (M.pure []))) (tgN 11) (M.pure true) (fz (mLc [12] (mRng rng1 (mCons (fz (mOp dAdd (mTwo (M.pure (.int 1)) (fz (mCall 4 m__law_sip [some 0, none] (mLent 0 (mCons (fz (mOp dDiv (mTwo (mVw 3) (mVw 7)))) (M.pure [])))))))) (M.pure []))) (tgN 12) (M.pure true) (fz (mCall 2 m__law_pick [some 0, none] (mLent 0 (mCons (mFz 8) (M.pure [])))))))))
 (mRet (mLc [13] (mIt (mFz 9)) (tgN 13) (M.pure true) (fz (mOp dJoin (mTwo (M.pure (.str [])) (mVw 13)))))))))
 (M.pure .nx))
 (mSeq (mSet 7 (mOp dAdd (mTwo (M.pure (.int 1)) (fz (mCall 4 m__law_sip [some 0, none] (mLent 0 (mCons (mVar 3) (M.pure []))))))))
 (mSeq (mSet 5 (mLc [11] (mRng rng1 (mCons (mVar 6) (M.pure []))) (tgN 11) (M.pure true) (fz (mCall 5 m__law_word [some 0, none, none, none] (mLent 0 (mCons (mVar 1) (mCons (mIf (mTe dEq (mTwo (mVw 4) (M.pure (.int 6)))) (mVar 7) (M.pure (.int 1))) (mCons (mIf (mTe dEq (mTwo (mVw 4) (M.pure (.int 6)))) (mVar 7) (mVar 3)) (M.pure [])))))))))
 (mSeq (mIfS (mAnd (mTe dEq (mTwo (mVw 4) (M.pure (.int 5)))) (mTe dGt (mTwo (mVw 6) (M.pure (.int 1)))))
 (mSeq (mSetIx 5 [] (fz (mSl (fz (mOp dAdd (mTwo (fz (mOp dIx (mTwo (mVw 5) (M.pure (.int 0))))) (fz (mCall 2 m__law_pick [some 0, none] (mLent 0 (mCons (fz (mOp dAdd (mTwo (fz (mSl (mVw 5) (fun _ => some none) (mPart (fz (mUn dNeg (M.pure (.int 1))))))) (fz (mLst (mCons (M.pure (.str [])) (M.pure []))))))) (M.pure [])))))))) (fun _ => some none) (mPart (mVar 3)))) (fz (mUn dNeg (M.pure (.int 1)))))
 (mSet 5 (mCall 5 m__law_mixed [some 0, none] (mLent 0 (mCons (mFz 5) (M.pure []))))))
 (M.pure .nx))
 (mRet (mMv 5)))))))))
def N__law_late_words : List Str := ["well", "abc", "some", "pair", "found", "spot", "place", "word", "sign"]
def m__law_late_words : M Out :=
 (mSeq (mSet 2 (mLst (mCons (M.pure (.str [97, 98, 98, 32, 98, 98, 98, 97, 98, 32, 98, 98, 97, 97, 32, 98, 98, 98, 97])) (mCons (M.pure (.str [98, 97, 32, 97, 98, 98, 32, 98, 97, 98, 97, 98])) (mCons (M.pure (.str [97, 98, 97, 97, 32, 98, 32, 97, 97, 97, 97, 98, 32, 98, 98, 97, 98])) (mCons (M.pure (.str [97, 98, 32, 98, 97, 97, 98, 97, 32, 98, 97, 97])) (mCons (M.pure (.str [97, 32, 98, 98, 97, 98, 32, 97, 98, 98])) (M.pure []))))))))
 (mSeq (mSet 2 (mOp dAdd (mTwo (mVw 2) (fz (mLst (mCons (M.pure (.str [97, 98, 32, 97, 32, 98, 97, 98, 98, 97])) (mCons (M.pure (.str [97, 97, 97, 97, 98, 32, 98, 97, 98, 98, 98, 32, 97])) (mCons (M.pure (.str [97, 32, 97, 98, 32, 98, 98])) (mCons (M.pure (.str [97, 97, 98, 98, 97, 32, 97, 97, 98, 98, 32, 98, 98, 97, 97, 32, 97, 97, 97, 98])) (mCons (M.pure (.str [97, 32, 97, 98, 32, 97, 98, 98, 32, 98, 98, 98])) (M.pure [])))))))))))
 (mSeq (mSet 2 (mCall 2 m__law_pick [some 0, none] (mLent 0 (mCons (fz (mOp dAdd (mTwo (mVw 2) (fz (mLst (mCons (M.pure (.str [98, 32, 97, 98, 32, 97, 97, 98, 32, 97, 97, 98, 98, 98])) (M.pure []))))))) (M.pure [])))))
 (mSeq (mSet 3 (mSl (fz (mCall 5 m__law_mixed [some 0, none] (mLent 0 (mCons (mVar 1) (M.pure []))))) (fun _ => some none) (mPart (M.pure (.int 2)))))
 (mSeq (mSet 4 (mLc [7] (mIt (fz (mOp dSplit (mTwo (mFz 2) (M.pure (.str [32])))))) (tgN 7) (M.pure true) (fz (mOp dJoin (mTwo (M.pure (.str [])) (fz (mLc [8] (mIt (mVar 7)) (tgN 8) (M.pure true) (fz (mOp dIx (mTwo (mVw 3) (fz (mUn dInt (mBl (mTe dEq (mTwo (mVw 8) (M.pure (.str [98])))))))))))))))))
 (mSeq (mIfS (mTe dEq (mTwo (fz (mCall 4 m__law_sip [some 0, none] (mLent 0 (mCons (M.pure (.int 3)) (M.pure []))))) (M.pure (.int 0))))
 (mSeq (mSet 5 (mCall 4 m__law_sip [some 0, none] (mLent 0 (mCons (fz (mUn dLen (mVw 4))) (M.pure [])))))
 (mSeq (mSet 6 (mCall 4 m__law_sip [some 0, none] (mLent 0 (mCons (fz (mUn dLen (fz (mOp dIx (mTwo (mVw 4) (mVw 5)))))) (M.pure [])))))
 (mSetIx 4 [] (fz (mOp dAdd (mTwo (fz (mOp dAdd (mTwo (fz (mSl (fz (mOp dIx (mTwo (mVw 4) (mVw 5)))) (fun _ => some none) (mPart (mVar 6)))) (fz (mCall 2 m__law_pick [some 0, none] (mLent 0 (mCons (mVar 1) (M.pure [])))))))) (fz (mSl (fz (mOp dIx (mTwo (mVw 4) (mVw 5)))) (mPart (fz (mOp dAdd (mTwo (mVw 6) (M.pure (.int 1)))))) (fun _ => some none)))))) (mVar 5))))
 (M.pure .nx))
 (mRet (mCall 5 m__law_mixed [some 0, none] (mLent 0 (mCons (mFz 4) (M.pure [])))))))))))
def N_checked_signs : List Str := ["signs", "last", "sign"]
def m_checked_signs : M Out :=
 (mSeq (mSet 1 (shM (M.pure (.str []))))
 (mSeq (mFor (mIt (mVar 0)) (tgN 2)
 (mSeq (mIfS (mOr (mTe dNotIn (mTwo (mVw 2) (M.pure (.str [97, 98, 99, 100, 101, 102, 103, 104, 105, 106, 107, 108, 109, 110, 111, 112, 113, 114, 115, 116, 117, 118, 119, 120, 121, 122])))) (mTe dLe (mTwo (mVw 2) (mVw 1))))
 mNo
 (M.pure .nx))
 (mSet 1 (shM (mVar 2)))))
 (mIfS (mTe dEq (mTwo (mVw 0) (M.pure (.str []))))
 mNo
 (M.pure .nx))))
def N_known : List Str := ["message", "signs", "sign"]
def m_known : M Out :=
 (mFor (mIt (mVar 0)) (tgN 2)
 (mIfS (mTe dNotIn (mTwo (mVw 2) (mVw 1)))
 mNo
 (M.pure .nx)))
def N_Book___init__ : List Str := ["self", "signs", "words", "letters", "word"]
def m_Book___init__ : M Out :=
 (mSeq (mDrop (mCall 3 m_checked_signs [none] (mCons (mVar 1) (M.pure []))))
 (mSeq (mDrop (mCall 3 m_checked_signs [none] (mCons (mVar 3) (M.pure []))))
 (mSeq (mIfS (mTe dNe (mTwo (fz (mUn dLen (mVw 2))) (fz (mUn dLen (mVw 1)))))
 mNo
 (M.pure .nx))
 (mSeq (mIfS (mTe dIn (mTwo (M.pure (.str [])) (mVw 2)))
 mNo
 (M.pure .nx))
 (mSeq (mFor (mIt (mVar 2)) (tgN 4)
 (mDrop (mCall 3 m_known [none, none] (mCons (mVar 4) (mCons (mVar 3) (M.pure []))))))
 (mSeq (mFldS 0 [] "Book" "_signs" (shM (mVar 1)))
 (mSeq (mFldS 0 [] "Book" "_words" (mUn dList (mVw 2)))
 (mFldS 0 [] "Book" "_letters" (shM (mVar 3))))))))))
def N__law_alike : List Str := ["row", "near", "far", "most", "layer", "size", "longer", "left", "right", "lefts", "rights", "piece", "part"]
def m__law_alike : M Out :=
 (mSeq (mSet 4 (mLst (mCons (fz (mTup (mCons (mVar 1) (mCons (mVar 2) (M.pure []))))) (M.pure []))))
 (mSeq (mFor (mRng rng1 (mCons (fz (mOp dAdd (mTwo (mVw 3) (M.pure (.int 1))))) (M.pure []))) (tgN 5)
 (mSeq (mSet 6 (mLst (M.pure [])))
 (mSeq (mFor (mIt (mFz 4)) (tgT (tgsC (tgN 7) (tgsC (tgN 8) tgs0)))
 (mIfS (mTe dEq (mTwo (fz (mOp dIx (mTwo (mVw 7) (M.pure (.int 0))))) (fz (mOp dIx (mTwo (mVw 8) (M.pure (.int 0)))))))
 (mSeq (mSet 9 (mIf (mTe dGt (mTwo (fz (mUn dLen (mVw 7))) (M.pure (.int 1)))) (mLst (mCons (fz (mSl (mVw 7) (mPart (M.pure (.int 1))) (fun _ => some none))) (M.pure []))) (shM (mVar 0))))
 (mSeq (mSet 10 (mIf (mTe dGt (mTwo (fz (mUn dLen (mVw 8))) (M.pure (.int 1)))) (mLst (mCons (fz (mSl (mVw 8) (mPart (M.pure (.int 1))) (fun _ => some none))) (M.pure []))) (shM (mVar 0))))
 (mSeq (mIfS (mAnd (mTe dEq (mTwo (fz (mUn dLen (mVw 7))) (M.pure (.int 1)))) (mTe dEq (mTwo (fz (mUn dLen (mVw 8))) (M.pure (.int 1)))))
 (mRet (mOp dAdd (mTwo (mVw 3) (M.pure (.int 1)))))
 (M.pure .nx))
 (mFor (mIt (mFz 9)) (tgN 11)
 (mDrop (mMut 6 [] fExt (mCons (fz (mLc [12] (mIt (mFz 10)) (tgN 12) (M.pure true) (fz (mTup (mCons (mVar 11) (mCons (mVar 12) (M.pure []))))))) (M.pure []))))))))
 (M.pure .nx)))
 (mSeq (mIfS (mTe dEq (mTwo (mVw 6) (fz (mLst (M.pure [])))))
 (mRet (shM (mVar 5)))
 (M.pure .nx))
 (mSet 4 (mUn dSortedSet (mVw 6)))))))
 (mRet (mOp dAdd (mTwo (mVw 3) (M.pure (.int 1)))))))
def N__law_delay : List Str := ["row", "ends", "due", "word", "most", "k", "j", "size", "end"]
def m__law_delay : M Out :=
 (mSeq (mSetM [1, 2] (mConsT (mLst (M.pure [])) (mConsT (shM (M.pure (.int 0))) (M.pure []))))
 (mSeq (mFor (mIt (mVar 0)) (tgN 3)
 (mDrop (mMut 1 [] fExt (mCons (fz (mLc [5] (mRng rng2 (mCons (M.pure (.int 1)) (mCons (fz (mUn dLen (mVw 3))) (M.pure [])))) (tgN 5) (mTe dNotIn (mTwo (fz (mSl (mVw 3) (mPart (mVar 5)) (fun _ => some none))) (mVw 1))) (fz (mSl (mVw 3) (mPart (mVar 5)) (fun _ => some none))))) (M.pure [])))))
 (mSeq (mSet 4 (mOp dAdd (mTwo (fz (mUn dMax (fz (mLc [3] (mIt (mVar 0)) (tgN 3) (M.pure true) (fz (mUn dLen (mVw 3))))))) (fz (mUn dSum (fz (mLc [8] (mIt (mFz 1)) (tgN 8) (M.pure true) (fz (mUn dLen (mVw 8))))))))))
 (mSeq (mFor (mRng rng1 (mCons (fz (mUn dLen (mVw 0))) (M.pure []))) (tgN 5)
 (mFor (mRng rng1 (mCons (mVar 5) (M.pure []))) (tgN 6)
 (mSeq (mSet 7 (mCall 13 m__law_alike [none, none, none, none] (mCons (mVar 0) (mCons (fz (mOp dIx (mTwo (mVw 0) (mVw 5)))) (mCons (fz (mOp dIx (mTwo (mVw 0) (mVw 6)))) (mCons (mVar 4) (M.pure [])))))))
 (mSeq (mIfS (mTe dGt (mTwo (mVw 7) (mVw 4)))
 (mRet (shM (M.pure .non)))
 (M.pure .nx))
 (mSet 2 (mFn dMax2 (mCons (mVar 2) (mCons (fz (mOp dAdd (mTwo (fz (mOp dSub (mTwo (mVw 7) (fz (mFn dMin2 (mCons (fz (mUn dLen (fz (mOp dIx (mTwo (mVw 0) (mVw 5)))))) (mCons (fz (mUn dLen (fz (mOp dIx (mTwo (mVw 0) (mVw 6)))))) (M.pure [])))))))) (M.pure (.int 1))))) (M.pure [])))))))))
 (mRet (shM (mVar 2)))))))
def N_Book_words : List Str := ["self"]
def m_Book_words : M Out :=
 (mRet (mUn dList (mFld "Book" "_words" (mVar 0))))
def N_rest_of : List Str := ["one", "other"]
def m_rest_of : M Out :=
 (mSeq (mIfS (mTr (fz (mOp dSw (mTwo (mVar 0) (mVw 1)))))
 (mRet (mSl (mVw 0) (mPart (fz (mUn dLen (mVw 1)))) (fun _ => some none)))
 (M.pure .nx))
 (mSeq (mIfS (mTr (fz (mOp dSw (mTwo (mVar 1) (mVw 0)))))
 (mRet (mSl (mVw 1) (mPart (fz (mUn dLen (mVw 0)))) (fun _ => some none)))
 (M.pure .nx))
 (mRet (shM (M.pure .non)))))
def N_first_rests : List Str := ["words", "found", "place", "word", "other", "rest"]
def m_first_rests : M Out :=
 (mSeq (mSet 1 (mLst (M.pure [])))
 (mSeq (mFor (mRng enum1 (mCons (mVar 0) (M.pure []))) (tgT (tgsC (tgN 2) (tgsC (tgN 3) tgs0)))
 (mFor (mIt (fz (mSl (mVw 0) (fun _ => some none) (mPart (mVar 2))))) (tgN 4)
 (mSeq (mSet 5 (mCall 2 m_rest_of [none, none] (mCons (mVar 3) (mCons (mVar 4) (M.pure [])))))
 (mIfS (mAnd (mTe dIsNot (mTwo (mVw 5) (M.pure .non))) (mTe dNotIn (mTwo (mVw 5) (mVw 1))))
 (mDrop (mMut 1 [] fApp (mCons (mVar 5) (M.pure []))))
 (M.pure .nx)))))
 (mRet (mMv 1))))
def N_dangling : List Str := ["words", "found", "place", "rest", "word", "longer"]
def m_dangling : M Out :=
 (mSeq (mSet 1 (mCall 6 m_first_rests [none] (mCons (mVar 0) (M.pure []))))
 (mSeq (mSet 2 (shM (M.pure (.int 0))))
 (mSeq (mWhile (mTe dLt (mTwo (mVw 2) (fz (mUn dLen (mVw 1)))))
 (mSeq (mSet 3 (mOp dIx (mTwo (mVw 1) (mVw 2))))
 (mSeq (mSet 2 (mOp dAdd (mTwo (mVw 2) (M.pure (.int 1)))))
 (mSeq (mIfS (mTe dEq (mTwo (mVw 3) (M.pure (.str []))))
 (M.pure .ct)
 (M.pure .nx))
 (mFor (mIt (mVar 0)) (tgN 4)
 (mSeq (mSet 5 (mCall 2 m_rest_of [none, none] (mCons (mVar 3) (mCons (mVar 4) (M.pure [])))))
 (mIfS (mAnd (mTe dIsNot (mTwo (mVw 5) (M.pure .non))) (mTe dNotIn (mTwo (mVw 5) (mVw 1))))
 (mDrop (mMut 1 [] fApp (mCons (mVar 5) (M.pure []))))
 (M.pure .nx))))))))
 (mRet (mMv 1)))))
def N_alike_letters : List Str := ["one", "other", "size"]
def m_alike_letters : M Out :=
 (mSeq (mSet 2 (shM (M.pure (.int 0))))
 (mSeq (mWhile (mAnd (mTe dLt (mTwo (mVw 2) (fz (mFn dMin2 (mCons (fz (mUn dLen (mVw 0))) (mCons (fz (mUn dLen (mVw 1))) (M.pure []))))))) (mTe dEq (mTwo (fz (mOp dIx (mTwo (mVw 0) (mVw 2)))) (fz (mOp dIx (mTwo (mVw 1) (mVw 2)))))))
 (mSet 2 (mOp dAdd (mTwo (mVw 2) (M.pure (.int 1))))))
 (mRet (shM (mVar 2)))))
def N_alike_behind : List Str := ["rest", "word", "table", "size", "longer"]
def m_alike_behind : M Out :=
 (mSeq (mSet 3 (mCall 3 m_alike_letters [none, none] (mCons (mVar 0) (mCons (mVar 1) (M.pure [])))))
 (mSeq (mSet 4 (mCall 2 m_rest_of [none, none] (mCons (mVar 0) (mCons (mVar 1) (M.pure [])))))
 (mRet (mIf (mTe dIs (mTwo (mVw 4) (M.pure .non))) (shM (mVar 3)) (mOp dAdd (mTwo (mVw 3) (fz (mOp dDget (mTwo (mVw 2) (mVw 4))))))))))
def N_delay : List Str := ["book", "words", "rests", "table", "_", "later", "rest", "word"]
def m_delay : M Out :=
 (mSeq (mSet 1 (mMeth "Book" "words" 1 m_Book_words [] (mVar 0) (M.pure [])))
 (mSeq (mSet 2 (mCall 6 m_dangling [none] (mCons (mFz 1) (M.pure []))))
 (mSeq (mIfS (mTe dIn (mTwo (M.pure (.str [])) (mVw 2)))
 (mRet (shM (M.pure .non)))
 (M.pure .nx))
 (mSeq (mSet 3 (mDc [6] (mIt (mFz 2)) (tgN 6) (M.pure true) (mVar 6) (M.pure (.int 0))))
 (mSeq (mFor (mRng rng1 (mCons (fz (mOp dAdd (mTwo (fz (mUn dLen (mVw 2))) (M.pure (.int 1))))) (M.pure []))) (tgN 4)
 (mSeq (mSet 5 (mDc [6] (mIt (mFz 2)) (tgN 6) (M.pure true) (mVar 6) (fz (mUn dMax (fz (mLc [7] (mIt (mFz 1)) (tgN 7) (M.pure true) (fz (mCall 5 m_alike_behind [none, none, none] (mCons (mVar 6) (mCons (mVar 7) (mCons (mFz 3) (M.pure []))))))))))))
 (mSeq (mIfS (mTe dEqK (mTwo (mVw 5) (mVw 3)))
 (mRet (mUn (dMaxD 0) (fz (mLc [6] (mIt (fz (mCall 6 m_first_rests [none] (mCons (mFz 1) (M.pure []))))) (tgN 6) (M.pure true) (fz (mOp dAdd (mTwo (fz (mOp dDget (mTwo (mVw 3) (mVw 6)))) (M.pure (.int 1)))))))))
 (M.pure .nx))
 (mSet 3 (mMv 5)))))
 (mRet (shM (M.pure .non))))))))
def N__law_is_plain : List Str := ["row", "k", "j"]
def m__law_is_plain : M Out :=
 (mSeq (mFor (mRng rng1 (mCons (fz (mUn dLen (mVw 0))) (M.pure []))) (tgN 1)
 (mFor (mRng rng1 (mCons (fz (mUn dLen (mVw 0))) (M.pure []))) (tgN 2)
 (mIfS (mAnd (mTe dNe (mTwo (mVw 2) (mVw 1))) (mTe dEq (mTwo (fz (mSl (fz (mOp dIx (mTwo (mVw 0) (mVw 1)))) (fun _ => some none) (mPart (fz (mUn dLen (fz (mOp dIx (mTwo (mVw 0) (mVw 2))))))))) (fz (mOp dIx (mTwo (mVw 0) (mVw 2)))))))
 (mRet (shM (M.pure (.bl false))))
 (M.pure .nx))))
 (mRet (shM (M.pure (.bl true)))))
def N_is_plain : List Str := ["book", "words", "place", "word", "other"]
def m_is_plain : M Out :=
 (mSeq (mSet 1 (mMeth "Book" "words" 1 m_Book_words [] (mVar 0) (M.pure [])))
 (mSeq (mFor (mRng enum1 (mCons (mFz 1) (M.pure []))) (tgT (tgsC (tgN 2) (tgsC (tgN 3) tgs0)))
 (mFor (mIt (fz (mOp dAdd (mTwo (fz (mSl (mVw 1) (fun _ => some none) (mPart (mVar 2)))) (fz (mSl (mVw 1) (mPart (fz (mOp dAdd (mTwo (mVw 2) (M.pure (.int 1)))))) (fun _ => some none))))))) (tgN 4)
 (mIfS (mTr (fz (mOp dSw (mTwo (mVar 3) (mVw 4)))))
 (mRet (shM (M.pure (.bl false))))
 (M.pure .nx))))
 (mRet (shM (M.pure (.bl true))))))
def N_Book_signs : List Str := ["self"]
def m_Book_signs : M Out :=
 (mRet (shM (mFld "Book" "_signs" (mVar 0))))
def N_Book_letters : List Str := ["self"]
def m_Book_letters : M Out :=
 (mRet (shM (mFld "Book" "_letters" (mVar 0))))
def N_Book___len__ : List Str := ["self"]
def m_Book___len__ : M Out :=
 (mRet (mUn dLen (mFld "Book" "_words" (mVar 0))))
def N_Book_written : List Str := ["self", "message", "sign"]
def m_Book_written : M Out :=
 (mSeq (mDrop (mCall 3 m_known [none, none] (mCons (mVar 1) (mCons (mFld "Book" "_signs" (mVar 0)) (M.pure [])))))
 (mRet (mOp dJoin (mTwo (M.pure (.str [])) (fz (mLc [2] (mIt (mVar 1)) (tgN 2) (M.pure true) (fz (mOp dIx (mTwo (mFld "Book" "_words" (mVar 0)) (fz (mOp dSix (mTwo (mFld "Book" "_signs" (mVar 0)) (mVw 2)))))))))))))
def N_Book___eq__ : List Str := ["self", "other"]
def m_Book___eq__ : M Out :=
 (mRet (shM (mAndV (mIsC "Book" (mVar 1)) (mAndV (mBl (mTe dEq (mTwo (mFld "Book" "_signs" (mVar 0)) (mFld "Book" "_signs" (mVar 1))))) (mAndV (mBl (mTe dEq (mTwo (mFld "Book" "_words" (mVar 0)) (mFld "Book" "_words" (mVar 1))))) (mBl (mTe dEq (mTwo (mFld "Book" "_letters" (mVar 0)) (mFld "Book" "_letters" (mVar 1))))))))))
def N__law_stays : List Str := ["code", "key", "row", "abc", "twin", "sign"]
def m__law_stays : M Out :=
 (mSeq (mIfS (mTe dNe (mTwo (fz (mUn dRepr (fz (mLst (mCons (fz (mMeth "Book" "signs" 1 m_Book_signs [] (mVar 0) (M.pure []))) (mCons (fz (mMeth "Book" "words" 1 m_Book_words [] (mVar 0) (M.pure []))) (mCons (fz (mMeth "Book" "letters" 1 m_Book_letters [] (mVar 0) (M.pure []))) (mCons (mLenOwn "Book" 1 m_Book___len__ (mVar 0)) (M.pure []))))))))) (fz (mUn dRepr (fz (mLst (mCons (mVar 1) (mCons (mVar 2) (mCons (mVar 3) (mCons (fz (mUn dLen (mVw 2))) (M.pure [])))))))))))
 (mRet (shM (M.pure (.bl false))))
 (M.pure .nx))
 (mSeq (mSet 4 (shM (fz (mMake "Book" 5 m_Book___init__ (mCons (mVar 1) (mCons (fz (mUn dList (mVw 2))) (mCons (mVar 3) (M.pure []))))))))
 (mRet (shM (mAndV (mBl (mTe dEq (mTwo (fz (mLc [5] (mIt (mVar 1)) (tgN 5) (M.pure true) (fz (mMeth "Book" "written" 3 m_Book_written [none] (mVar 0) (mCons (mVar 5) (M.pure [])))))) (mVw 2)))) (mAndV (mBl (mTe dIs (mTwo (mEqOwn "Book" 2 m_Book___eq__ (mTwo (mVw 0) (mVw 4))) (M.pure (.bl true))))) (mBl (mTe dIs (mTwo (mEqOwn "Book" 2 m_Book___eq__ (mTwo (mVw 4) (mVw 0))) (M.pure (.bl true)))))))))))
def N__law_asked : List Str := ["well", "row", "abc", "key", "due", "is_first", "code", "found"]
def m__law_asked : M Out :=
 (mSeq (mSetM [3, 4, 5] (mConsT (mCall 6 m__law_alphabet [some 0, none] (mLent 0 (mCons (fz (mUn dLen (mVw 1))) (M.pure [])))) (mConsT (mCall 3 m__law_is_plain [none] (mCons (mVar 1) (M.pure []))) (mConsT (shM (mBl (mTe dEq (mTwo (fz (mCall 4 m__law_sip [some 0, none] (mLent 0 (mCons (M.pure (.int 2)) (M.pure []))))) (M.pure (.int 0)))))) (M.pure [])))))
 (mSeq (mSet 6 (shM (fz (mMake "Book" 5 m_Book___init__ (mCons (mVar 3) (mCons (fz (mUn dList (mVw 1))) (mCons (mVar 2) (M.pure []))))))))
 (mSeq (mIfS (mAnd (mTr (mVw 5)) (mTe dNe (mTwo (fz (mUn dRepr (fz (mCallKw 5 m_is_plain (mVar 6))))) (fz (mUn dRepr (mVw 4))))))
 (mRet (shM (M.pure (.bl false))))
 (M.pure .nx))
 (mSeq (mIfS (mTe dLt (mTwo (fz (mUn dLen (mVw 1))) (M.pure (.int 5))))
 (mSeq (mSet 7 (mIf (mTe dEq (mTwo (fz (mCall 4 m__law_sip [some 0, none] (mLent 0 (mCons (M.pure (.int 2)) (M.pure []))))) (M.pure (.int 0)))) (mCall 8 m_delay [none] (mCons (mVar 6) (M.pure []))) (mCallKw 8 m_delay (mVar 6))))
 (mIfS (mOr (mTe dNe (mTwo (fz (mUn dRepr (mVw 7))) (fz (mUn dRepr (fz (mCall 9 m__law_delay [none] (mCons (mVar 1) (M.pure [])))))))) (mTe dNe (mTwo (mBl (mTe dEq (mTwo (fz (mUn dRepr (mVw 7))) (M.pure (.str [48]))))) (mVw 4))))
 (mRet (shM (M.pure (.bl false))))
 (M.pure .nx)))
 (M.pure .nx))
 (mRet (shM (mAndV (mBl (mTe dEq (mTwo (fz (mUn dRepr (fz (mCall 5 m_is_plain [none] (mCons (mVar 6) (M.pure [])))))) (fz (mUn dRepr (mVw 4)))))) (fz (mCall 6 m__law_stays [none, none, none, none] (mCons (mVar 6) (mCons (mVar 3) (mCons (mVar 1) (mCons (mVar 2) (M.pure []))))))))))))))
def N__law_more : List Str := ["well", "row", "abc", "word", "more", "spot"]
def m__law_more : M Out :=
 (mSeq (mSet 3 (mCall 2 m__law_pick [some 0, none] (mLent 0 (mCons (mVar 1) (M.pure [])))))
 (mSeq (mSet 4 (mLst (mCons (mVar 3) (mCons (fz (mSl (mVw 3) (fun _ => some none) (mPart (M.pure (.int 1))))) (mCons (fz (mSl (fz (mOp dAdd (mTwo (mVar 3) (fz (mCall 2 m__law_pick [some 0, none] (mLent 0 (mCons (mVar 2) (M.pure [])))))))) (fun _ => some none) (mPart (M.pure (.int 5))))) (mCons (fz (mSl (mVw 3) (fun _ => some none) (mPart (fz (mFn dMax2 (mCons (M.pure (.int 1)) (mCons (fz (mOp dSub (mTwo (fz (mUn dLen (mVw 3))) (M.pure (.int 1))))) (M.pure [])))))))) (M.pure [])))))))
 (mSeq (mSet 5 (mCall 4 m__law_sip [some 0, none] (mLent 0 (mCons (fz (mOp dAdd (mTwo (fz (mUn dLen (mVw 1))) (M.pure (.int 1))))) (M.pure [])))))
 (mRet (mOp dAdd (mTwo (fz (mOp dAdd (mTwo (fz (mSl (mVw 1) (fun _ => some none) (mPart (mVar 5)))) (fz (mLst (mCons (fz (mCall 2 m__law_pick [some 0, none] (mLent 0 (mCons (mFz 4) (M.pure []))))) (M.pure []))))))) (fz (mSl (mVw 1) (mPart (mVar 5)) (fun _ => some none)))))))))
def N_law : List Str := ["script", "well", "turn", "abc", "row", "code", "due", "spot", "longer", "more"]
def m_law : M Out :=
 (mSeq (mSet 1 (mCall 6 m__law_well [none] (mCons (mVar 0) (M.pure []))))
 (mSeq (mFor (mRng rng1 (mCons (fz (mOp dAdd (mTwo (M.pure (.int 1)) (fz (mFn dMin2 (mCons (M.pure (.int 2)) (mCons (fz (mOp dDiv (mTwo (fz (mUn dLen (mVw 0))) (M.pure (.int 12))))) (M.pure [])))))))) (M.pure []))) (tgN 2)
 (mSeq (mSet 3 (mCall 6 m__law_alphabet [some 1, none] (mLent 1 (mCons (fz (mOp dAdd (mTwo (M.pure (.int 1)) (fz (mCall 4 m__law_sip [some 1, none] (mLent 1 (mCons (M.pure (.int 3)) (M.pure [])))))))) (M.pure [])))))
 (mSeq (mSet 4 (mCall 14 m__law_words [some 1, none, none, none] (mLent 1 (mCons (mVar 3) (mCons (M.pure (.int 4)) (mCons (fz (mOp dIx (mTwo (fz (mLst (mCons (M.pure (.int 5)) (mCons (M.pure (.int 3)) (mCons (M.pure (.int 4)) (M.pure [])))))) (fz (mCall 4 m__law_sip [some 1, none] (mLent 1 (mCons (M.pure (.int 3)) (M.pure [])))))))) (M.pure [])))))))
 (mSeq (mIfS (mAnd (mTe dGt (mTwo (fz (mUn dLen (mVw 3))) (M.pure (.int 1)))) (mTe dEq (mTwo (fz (mCall 4 m__law_sip [some 1, none] (mLent 1 (mCons (M.pure (.int 3)) (M.pure []))))) (M.pure (.int 0)))))
 (mSet 4 (mCall 9 m__law_late_words [some 1, none] (mLent 1 (mCons (mVar 3) (M.pure [])))))
 (M.pure .nx))
 (mSeq (mSetM [5, 6] (mConsT (shM (fz (mMake "Book" 5 m_Book___init__ (mCons (fz (mCall 6 m__law_alphabet [some 1, none] (mLent 1 (mCons (fz (mUn dLen (mVw 4))) (M.pure []))))) (mCons (fz (mUn dList (mVw 4))) (mCons (mVar 3) (M.pure []))))))) (mConsT (mCall 9 m__law_delay [none] (mCons (mFz 4) (M.pure []))) (M.pure []))))
 (mSeq (mIfS (mTe dNe (mTwo (fz (mUn dRepr (fz (mCall 8 m_delay [none] (mCons (mVar 5) (M.pure [])))))) (fz (mUn dRepr (mVw 6)))))
 (mRet (shM (M.pure (.bl false))))
 (M.pure .nx))
 (mSeq (mSetM [7, 8] (mConsT (mCall 4 m__law_sip [some 1, none] (mLent 1 (mCons (fz (mOp dAdd (mTwo (fz (mUn dLen (mVw 4))) (M.pure (.int 1))))) (M.pure [])))) (mConsT (mCall 5 m__law_mixed [some 1, none] (mLent 1 (mCons (mFz 4) (M.pure [])))) (M.pure []))))
 (mSeq (mIfS (mTe dLt (mTwo (fz (mUn dLen (mVw 4))) (M.pure (.int 4))))
 (mDrop (mMut 8 [] fIns (mCons (mVar 7) (mCons (fz (mCall 5 m__law_word [some 1, none, none, none] (mLent 1 (mCons (mVar 3) (mCons (M.pure (.int 1)) (mCons (M.pure (.int 5)) (M.pure []))))))) (M.pure [])))))
 (M.pure .nx))
 (mSeq (mIfS (mOr (mNot (mTr (fz (mCall 8 m__law_asked [some 1, none, none] (mLent 1 (mCons (mFz 8) (mCons (mVar 3) (M.pure [])))))))) (mTe dNe (mTwo (fz (mUn dRepr (fz (mCall 8 m_delay [none] (mCons (mVar 5) (M.pure [])))))) (fz (mUn dRepr (mVw 6))))))
 (mRet (shM (M.pure (.bl false))))
 (M.pure .nx))
 (mSeq (mSet 9 (mCall 6 m__law_more [some 1, none, none] (mLent 1 (mCons (mFz 4) (mCons (mVar 3) (M.pure []))))))
 (mSeq (mIfS (mOr (mTr (fz (mCall 3 m__law_is_plain [none] (mCons (mFz 9) (M.pure []))))) (mNot (mTr (fz (mCall 8 m__law_asked [some 1, none, none] (mLent 1 (mCons (mFz 9) (mCons (mVar 3) (M.pure [])))))))))
 (mRet (shM (M.pure (.bl false))))
 (M.pure .nx))
 (mIfS (mOr (mNot (mTr (fz (mCall 8 m__law_asked [some 1, none, none] (mLent 1 (mCons (fz (mCall 14 m__law_words [some 1, none, none, none] (mLent 1 (mCons (mVar 3) (mCons (M.pure (.int 6)) (mCons (M.pure (.int 5)) (M.pure []))))))) (mCons (mVar 3) (M.pure [])))))))) (mNot (mTr (fz (mCall 8 m__law_asked [some 1, none, none] (mLent 1 (mCons (mFz 4) (mCons (mVar 3) (M.pure [])))))))))
 (mRet (shM (M.pure (.bl false))))
 (M.pure .nx)))))))))))))
 (mRet (shM (M.pure (.bl true))))))
end
end PM
set_option Elab.async false
set_option linter.all false
set_option maxRecDepth 100000
set_option maxHeartbeats 2000000
set_option autoImplicit false

namespace PM
open PySem PySem.Spec PyProof.Rows L2 He
noncomputable section
/-! ### _law_well -/
abbrev C__law_well : Ct := ⟨N__law_well, defScope (topOf P 21), fun _ => true, 0, []⟩
theorem ss__law_well {G : Gb} (h : Kn G) : SSs G C__law_well (defBody (topOf P 21)) m__law_well := by
  unfold m__law_well
  exact (ss_cons (v_par3 (sq_cons (SE.so se_int) (sq_cons (so_lst sa_nil) (sq_cons (so_op (fun X ok => ok_addU X ok) (v_add G.K) (two_v (SE.op (SO.se (so_op (fun X ok => ok_powU X ok) (v_pow G.K) (two_v (SE.op se_int) (SE.op se_int))))) (SE.op se_int))) sq_nil (fun _ _ => rfl)) (fun _ _ => rfl)) (fun _ _ => rfl)) (by kernel_rfl) (fun env h => by cases env; cases h; rfl) (fun _ => rfl))
 ((ss_cons (st_for (si_range1 (blt_ok (by kernel_rfl) (Kn.f_range h)) (sa_cons (SO.se (so_len (blt_ok (by kernel_rfl) (Kn.f_len h)) (v_op 0 (by kernel_rfl)) (fun _ _ => rfl))) sa_nil (fun _ _ => rfl)) (fun _ => rfl)) (v_tg 4 (by kernel_rfl))
 (ss_cons (v_set 5 (so_int (blt_ok (by kernel_rfl) (Kn.f_int h)) (SE.op (SO.se (so_ix (two_v (v_op 0 (by kernel_rfl)) (v_op 4 (by kernel_rfl))) (fun _ _ => rfl)))) (fun _ _ => rfl)) (by kernel_rfl) (fun _ _ => rfl))
 ((ss_cons (v_set 1 (so_op (fun X ok => op_modN) (v_mod G.K) (two_v (SE.op (SO.se (so_int (blt_ok (by kernel_rfl) (Kn.f_int h)) (SE.op (SO.se (so_op (fun X ok => ok_powU X ok) (v_pow G.K) (two_v (SE.op (SO.se (so_op (fun X ok => ok_addU X ok) (v_add G.K) (two_v (SE.op (SO.se (so_op (fun X ok => ok_addU X ok) (v_add G.K) (two_v (v_op 1 (by kernel_rfl)) (SE.op (SO.se (so_op (fun X ok => op_modN) (v_mod G.K) (two_v (SE.op (SO.se (so_int (blt_ok (by kernel_rfl) (Kn.f_int h)) (v_op 5 (by kernel_rfl)) (fun _ _ => rfl)))) (v_op 3 (by kernel_rfl)))))))))) (SE.op (SO.se (so_op (fun X ok => ok_mulU X ok) (v_mul G.K) (two_v (SE.op se_int) (v_op 4 (by kernel_rfl)))))))))) (SE.op se_int))))) (fun _ _ => rfl)))) (v_op 3 (by kernel_rfl)))) (by kernel_rfl) (fun _ _ => rfl))
 ((ss_one (st_if (sb_cmp (fun X ok => ok_geU) (v_ge G.K) (two_v (v_op 5 (by kernel_rfl)) (SE.op (SO.se (so_op (fun X ok => ok_powU X ok) (v_pow G.K) (two_v (SE.op se_int) (SE.op se_int)))))) rfl)
 (ss_one (st_expr (so_append (b := false) (v_pl 2 (by kernel_rfl)) (sa_cons (SO.se (so_op (fun X ok => op_sub) (v_sub G.K) (two_v (v_op 5 (by kernel_rfl)) (SE.op (SO.se (so_op (fun X ok => ok_powU X ok) (v_pow G.K) (two_v (SE.op se_int) (SE.op se_int)))))))) sa_nil (fun _ _ => rfl)) (.inr rfl) (fun _ => rfl) (fun _ _ => rfl) rfl (fun _ => rfl)) (fun _ => rfl)))
 ss_nil)))))) (fun _ _ => rfl))
 ((ss_one (st_ret (so_bx (sq_cons (v_mv 2 (by kernel_rfl)) (sq_cons (SE.so (v_se 1 (by kernel_rfl))) (sq_cons (SE.so se_int) sq_nil (fun _ _ => rfl)) (fun _ _ => rfl)) (fun _ _ => rfl)))))))))
theorem fk__law_well {G : Gb} (h : Kn G) : FnK G 1 (He.ga G.K "_law_well") 1 C__law_well m__law_well := by
  obtain ⟨hp, X, N, c⟩ := h.ex
  obtain ⟨fd, F⟩ := c.def_ 0
  exact fnK_of (C := C__law_well) (ps := ["script"]) F (scB_ok (by kernel_rfl)) rfl (ss__law_well h) (fd_binds F fun _ _ _ _ _ _ us hl => match us, hl with | [_], _ => rfl)
/-! ### _law_sip -/
abbrev C__law_sip : Ct := ⟨N__law_sip, defScope (topOf P 22), fun _ => true, 0, [0]⟩
theorem ss__law_sip {G : Gb} (h : Kn G) : SSs G C__law_sip (defBody (topOf P 22)) m__law_sip := by
  unfold m__law_sip
  exact (ss_cons (st_if (sb_cmp (fun X ok => ok_gtU) (v_gt G.K) (two_v (SE.op (SO.se (so_len (blt_ok (by kernel_rfl) (Kn.f_len h)) (op_at (spl_ix (v_pl 0 (by kernel_rfl)) (fun _ _ => rfl))) (fun _ _ => rfl)))) (SE.op se_int)) rfl)
 (ss_cons (v_set 2 (so_op (fun X ok => op_modN) (v_mod G.K) (two_v (SE.op (SO.se (so_int (blt_ok (by kernel_rfl) (Kn.f_int h)) (SE.op (SO.se (so_ix (two_v (op_at (spl_ix (v_pl 0 (by kernel_rfl)) (fun _ _ => rfl))) (SE.op se_int)) (fun _ _ => rfl)))) (fun _ _ => rfl)))) (v_op 1 (by kernel_rfl)))) (by kernel_rfl) (fun _ _ => rfl))
 ((ss_cons (st_setIx (SO.se (so_op (fun X ok => ok_divU X ok) (v_div G.K) (two_v (SE.op (SO.se (so_int (blt_ok (by kernel_rfl) (Kn.f_int h)) (SE.op (SO.se (so_ix (two_v (op_at (spl_ix (v_pl 0 (by kernel_rfl)) (fun _ _ => rfl))) (SE.op se_int)) (fun _ _ => rfl)))) (fun _ _ => rfl)))) (v_op 1 (by kernel_rfl))))) (spl_ix (v_pl 0 (by kernel_rfl)) (fun _ _ => rfl)) se_int (fun _ => rfl) (fun _ => rfl) (fun _ => rfl) (fun _ _ => rfl))
 ((ss_cons (st_if (sb_cmp (fun X ok => ok_eqU X ok) (v_eq G.K) (two_v (SE.op (SO.se (so_ix (two_v (op_at (spl_ix (v_pl 0 (by kernel_rfl)) (fun _ _ => rfl))) (SE.op se_int)) (fun _ _ => rfl)))) (SE.op se_int)) rfl)
 (ss_one (st_expr (so_pop (b := true) (spl_ix (v_pl 0 (by kernel_rfl)) (fun _ _ => rfl)) (sa_cons se_int sa_nil (fun _ _ => rfl)) (.inl rfl) (fun _ => rfl) (fun _ _ => rfl) rfl (fun _ => rfl)) (fun _ => rfl)))
 ss_nil)
 ((ss_one (st_ret (SE.so (v_se 2 (by kernel_rfl)))))))))))
 ss_nil)
 ((ss_cons (st_setIx (SO.se (so_op (fun X ok => ok_addU X ok) (v_add G.K) (two_v (op_at (spl_ix (v_pl 0 (by kernel_rfl)) (fun _ _ => rfl))) (SE.op se_int)))) (v_pl 0 (by kernel_rfl)) se_int (fun _ => rfl) (fun _ => rfl) (fun _ => rfl) (fun _ _ => rfl))
 ((ss_cons (v_set 3 (so_op (fun X ok => op_modN) (v_mod G.K) (two_v (SE.op (SO.se (so_int (blt_ok (by kernel_rfl) (Kn.f_int h)) (SE.op (SO.se (so_op (fun X ok => ok_powU X ok) (v_pow G.K) (two_v (SE.op (SO.se (so_op (fun X ok => ok_addU X ok) (v_add G.K) (two_v (op_at (spl_ix (v_pl 0 (by kernel_rfl)) (fun _ _ => rfl))) (SE.op (SO.se (so_op (fun X ok => ok_mulU X ok) (v_mul G.K) (two_v (SE.op se_int) (op_at (spl_ix (v_pl 0 (by kernel_rfl)) (fun _ _ => rfl))))))))))) (SE.op se_int))))) (fun _ _ => rfl)))) (SE.op (SO.se (so_op (fun X ok => ok_addU X ok) (v_add G.K) (two_v (SE.op (SO.se (so_op (fun X ok => ok_powU X ok) (v_pow G.K) (two_v (SE.op se_int) (SE.op se_int))))) (SE.op se_int))))))) (by kernel_rfl) (fun _ _ => rfl))
 ((ss_cons (v_set 3 (so_op (fun X ok => op_modN) (v_mod G.K) (two_v (SE.op (SO.se (so_int (blt_ok (by kernel_rfl) (Kn.f_int h)) (SE.op (SO.se (so_op (fun X ok => ok_powU X ok) (v_pow G.K) (two_v (SE.op (SO.se (so_op (fun X ok => ok_addU X ok) (v_add G.K) (two_v (v_op 3 (by kernel_rfl)) (SE.op (SO.se (so_op (fun X ok => ok_mulU X ok) (v_mul G.K) (two_v (SE.op (SO.se (so_op (fun X ok => ok_mulU X ok) (v_mul G.K) (two_v (SE.op se_int) (op_at (spl_ix (v_pl 0 (by kernel_rfl)) (fun _ _ => rfl))))))) (op_at (spl_ix (v_pl 0 (by kernel_rfl)) (fun _ _ => rfl))))))))))) (SE.op se_int))))) (fun _ _ => rfl)))) (SE.op (SO.se (so_op (fun X ok => ok_addU X ok) (v_add G.K) (two_v (SE.op (SO.se (so_op (fun X ok => ok_powU X ok) (v_pow G.K) (two_v (SE.op se_int) (SE.op se_int))))) (SE.op se_int))))))) (by kernel_rfl) (fun _ _ => rfl))
 ((ss_one (st_ret (so_op (fun X ok => op_modN) (v_mod G.K) (two_v (SE.op (SO.se (so_int (blt_ok (by kernel_rfl) (Kn.f_int h)) (SE.op (SO.se (so_op (fun X ok => ok_divU X ok) (v_div G.K) (two_v (v_op 3 (by kernel_rfl)) (SE.op (SO.se (so_op (fun X ok => ok_powU X ok) (v_pow G.K) (two_v (SE.op se_int) (SE.op se_int))))))))) (fun _ _ => rfl)))) (v_op 1 (by kernel_rfl))))))))))))))
theorem fk__law_sip {G : Gb} (h : Kn G) : FnK G 1 (He.ga G.K "_law_sip") 2 C__law_sip m__law_sip := by
  obtain ⟨hp, X, N, c⟩ := h.ex
  obtain ⟨fd, F⟩ := c.def_ 1
  exact fnK_of (C := C__law_sip) (ps := ["well", "many"]) F (scB_ok (by kernel_rfl)) rfl (ss__law_sip h) (fd_binds F fun _ _ _ _ _ _ us hl => match us, hl with | [_, _], _ => rfl)
/-! ### _law_pick -/
abbrev C__law_pick : Ct := ⟨N__law_pick, defScope (topOf P 23), fun _ => true, 4, [0]⟩
theorem ss__law_pick {G : Gb} (h : Kn G) : SSs G C__law_pick (defBody (topOf P 23)) m__law_pick := by
  unfold m__law_pick
  exact (ss_one (st_ret (so_ix (two_s (v_se 1 (by kernel_rfl)) (SE.op (SO.se (v_call (js := [some 0, none]) (fk__law_sip h) (Kn.g__law_sip h) (v_lent 0 (by kernel_rfl) (sx_val (SO.se (so_len (blt_ok (by kernel_rfl) (Kn.f_len h)) (v_op 1 (by kernel_rfl)) (fun _ _ => rfl))) sx_nil (fun _ _ => rfl))) (by kernel_rfl) (fun _ _ => rfl) (fun _ => rfl))))) (fun _ _ => rfl))))
theorem fk__law_pick {G : Gb} (h : Kn G) : FnK G 5 (He.ga G.K "_law_pick") 2 C__law_pick m__law_pick := by
  obtain ⟨hp, X, N, c⟩ := h.ex
  obtain ⟨fd, F⟩ := c.def_ 2
  exact fnK_of (C := C__law_pick) (ps := ["well", "some"]) F (scB_ok (by kernel_rfl)) rfl (ss__law_pick h) (fd_binds F fun _ _ _ _ _ _ us hl => match us, hl with | [_, _], _ => rfl)
/-! ### _law_alphabet -/
abbrev C__law_alphabet : Ct := ⟨N__law_alphabet, defScope (topOf P 24), fun _ => true, 8, [0]⟩
theorem ss__law_alphabet {G : Gb} (h : Kn G) : SSs G C__law_alphabet (defBody (topOf P 24)) m__law_alphabet := by
  unfold m__law_alphabet
  exact (ss_cons (v_par2 (sq_cons (v_call (js := [some 0, none]) (fk__law_pick h) (Kn.g__law_pick h) (v_lent 0 (by kernel_rfl) (sx_val (SO.se (so_lst (sa_cons (se_str [97, 98, 99, 100, 101, 102, 103, 104, 105, 106, 107, 108, 109, 110, 111, 112, 113, 114, 115, 116, 117, 118, 119, 120, 121, 122] (by kernel_rfl)) (sa_cons (se_str [97, 98, 99, 100, 101, 102, 103] (by kernel_rfl)) (sa_cons (se_str [116, 117, 118, 119, 120, 121, 122] (by kernel_rfl)) sa_nil (fun _ _ => rfl)) (fun _ _ => rfl)) (fun _ _ => rfl)))) sx_nil (fun _ _ => rfl))) (by kernel_rfl) (fun _ _ => rfl) (fun _ => rfl)) (sq_cons (SE.so (se_str [] (by kernel_rfl))) sq_nil (fun _ _ => rfl)) (fun _ _ => rfl)) (by kernel_rfl) (fun env h => by cases env; cases h; rfl) (fun _ => rfl))
 ((ss_cons (st_for (si_range1 (blt_ok (by kernel_rfl) (Kn.f_range h)) (sa_cons (v_se 1 (by kernel_rfl)) sa_nil (fun _ _ => rfl)) (fun _ => rfl)) (v_tg 4 (by kernel_rfl))
 (ss_cons (v_set 5 (v_call (js := [some 0, none]) (fk__law_sip h) (Kn.g__law_sip h) (v_lent 0 (by kernel_rfl) (sx_val (SO.se (so_len (blt_ok (by kernel_rfl) (Kn.f_len h)) (v_op 2 (by kernel_rfl)) (fun _ _ => rfl))) sx_nil (fun _ _ => rfl))) (by kernel_rfl) (fun _ _ => rfl) (fun _ => rfl)) (by kernel_rfl) (fun _ _ => rfl))
 ((ss_cons (v_set 3 (so_op (fun X ok => ok_addU X ok) (v_add G.K) (two_v (v_op 3 (by kernel_rfl)) (SE.op (SO.se (so_ix (two_v (v_op 2 (by kernel_rfl)) (v_op 5 (by kernel_rfl))) (fun _ _ => rfl)))))) (by kernel_rfl) (fun _ _ => rfl))
 ((ss_one (v_set 2 (so_op (fun X ok => ok_addU X ok) (v_add G.K) (two_v (SE.op (SO.se (so_sl (v_op 2 (by kernel_rfl)) sp_no (sp_of (v_se 5 (by kernel_rfl)))))) (SE.op (SO.se (so_sl (v_op 2 (by kernel_rfl)) (sp_of (SO.se (so_op (fun X ok => ok_addU X ok) (v_add G.K) (two_v (v_op 5 (by kernel_rfl)) (SE.op se_int))))) sp_no))))) (by kernel_rfl) (fun _ _ => rfl))))))) (fun _ _ => rfl))
 ((ss_one (st_ret (so_join (se_str [] (by kernel_rfl)) (SE.op (SO.se (so_sorted (blt_ok (by kernel_rfl) (Kn.f_sorted h)) (v_op 3 (by kernel_rfl)) (fun _ _ => rfl)))) (fun _ => rfl) (fun _ => rfl) rfl)))))))
theorem fk__law_alphabet {G : Gb} (h : Kn G) : FnK G 9 (He.ga G.K "_law_alphabet") 2 C__law_alphabet m__law_alphabet := by
  obtain ⟨hp, X, N, c⟩ := h.ex
  obtain ⟨fd, F⟩ := c.def_ 3
  exact fnK_of (C := C__law_alphabet) (ps := ["well", "many"]) F (scB_ok (by kernel_rfl)) rfl (ss__law_alphabet h) (fd_binds F fun _ _ _ _ _ _ us hl => match us, hl with | [_, _], _ => rfl)
/-! ### _law_mixed -/
abbrev C__law_mixed : Ct := ⟨N__law_mixed, defScope (topOf P 26), fun _ => true, 4, [0]⟩
theorem ss__law_mixed {G : Gb} (h : Kn G) : SSs G C__law_mixed (defBody (topOf P 26)) m__law_mixed := by
  unfold m__law_mixed
  exact (ss_cons (v_par2 (sq_cons (so_list (blt_ok (by kernel_rfl) (Kn.f_list h)) (v_op 1 (by kernel_rfl)) (fun _ _ => rfl)) (sq_cons (so_lst sa_nil) sq_nil (fun _ _ => rfl)) (fun _ _ => rfl)) (by kernel_rfl) (fun env h => by cases env; cases h; rfl) (fun _ => rfl))
 ((ss_cons (st_for (si_range1 (blt_ok (by kernel_rfl) (Kn.f_range h)) (sa_cons (SO.se (so_len (blt_ok (by kernel_rfl) (Kn.f_len h)) (v_op 1 (by kernel_rfl)) (fun _ _ => rfl))) sa_nil (fun _ _ => rfl)) (fun _ => rfl)) (v_tg 4 (by kernel_rfl))
 (ss_one (st_expr (so_append (b := false) (v_pl 3 (by kernel_rfl)) (sa_cons (SO.se (so_pop (b := false) (v_pl 2 (by kernel_rfl)) (sa_cons (SO.se (v_call (js := [some 0, none]) (fk__law_sip h) (Kn.g__law_sip h) (v_lent 0 (by kernel_rfl) (sx_val (SO.se (so_len (blt_ok (by kernel_rfl) (Kn.f_len h)) (v_op 2 (by kernel_rfl)) (fun _ _ => rfl))) sx_nil (fun _ _ => rfl))) (by kernel_rfl) (fun _ _ => rfl) (fun _ => rfl))) sa_nil (fun _ _ => rfl)) (.inr rfl) (fun _ => rfl) (fun _ _ => rfl) rfl (fun _ => rfl))) sa_nil (fun _ _ => rfl)) (.inr rfl) (fun _ => rfl) (fun _ _ => rfl) rfl (fun _ => rfl)) (fun _ => rfl))) (fun _ _ => rfl))
 ((ss_one (st_ret (v_mv 3 (by kernel_rfl))))))))
theorem fk__law_mixed {G : Gb} (h : Kn G) : FnK G 5 (He.ga G.K "_law_mixed") 2 C__law_mixed m__law_mixed := by
  obtain ⟨hp, X, N, c⟩ := h.ex
  obtain ⟨fd, F⟩ := c.def_ 4
  exact fnK_of (C := C__law_mixed) (ps := ["well", "some"]) F (scB_ok (by kernel_rfl)) rfl (ss__law_mixed h) (fd_binds F fun _ _ _ _ _ _ us hl => match us, hl with | [_, _], _ => rfl)
/-! ### _law_leaves -/
abbrev C__law_leaves : Ct := ⟨N__law_leaves, defScope (topOf P 27), fun _ => true, 8, [0]⟩
theorem ss__law_leaves {G : Gb} (h : Kn G) : SSs G C__law_leaves (defBody (topOf P 27)) m__law_leaves := by
  unfold m__law_leaves
  exact (ss_cons (v_set 4 (so_list (blt_ok (by kernel_rfl) (Kn.f_list h)) (v_op 1 (by kernel_rfl)) (fun _ _ => rfl)) (by kernel_rfl) (fun _ _ => rfl))
 ((ss_cons (st_for (si_range1 (blt_ok (by kernel_rfl) (Kn.f_range h)) (sa_cons (SO.se (v_call (js := [some 0, none]) (fk__law_sip h) (Kn.g__law_sip h) (v_lent 0 (by kernel_rfl) (sx_val se_int sx_nil (fun _ _ => rfl))) (by kernel_rfl) (fun _ _ => rfl) (fun _ => rfl))) sa_nil (fun _ _ => rfl)) (fun _ => rfl)) (v_tg 5 (by kernel_rfl))
 (ss_cons (v_set 6 (v_call (js := [some 0, none]) (fk__law_sip h) (Kn.g__law_sip h) (v_lent 0 (by kernel_rfl) (sx_val (SO.se (so_len (blt_ok (by kernel_rfl) (Kn.f_len h)) (v_op 4 (by kernel_rfl)) (fun _ _ => rfl))) sx_nil (fun _ _ => rfl))) (by kernel_rfl) (fun _ _ => rfl) (fun _ => rfl)) (by kernel_rfl) (fun _ _ => rfl))
 ((ss_one (st_if (SW.sb (sw_and (sb_cmp (fun X ok => ok_ltU) (v_lt G.K) (two_v (SE.op (SO.se (so_len (blt_ok (by kernel_rfl) (Kn.f_len h)) (SE.op (SO.se (so_ix (two_v (v_op 4 (by kernel_rfl)) (v_op 6 (by kernel_rfl))) (fun _ _ => rfl)))) (fun _ _ => rfl)))) (v_op 3 (by kernel_rfl))) rfl) (sw_and1 (sb_cmp (fun X ok => ok_leU) (v_le G.K) (two_v (SE.op (SO.se (so_op (fun X ok => ok_addU X ok) (v_add G.K) (two_v (SE.op (SO.se (so_len (blt_ok (by kernel_rfl) (Kn.f_len h)) (v_op 4 (by kernel_rfl)) (fun _ _ => rfl)))) (SE.op (SO.se (so_len (blt_ok (by kernel_rfl) (Kn.f_len h)) (v_op 1 (by kernel_rfl)) (fun _ _ => rfl)))))))) (SE.op (SO.se (so_op (fun X ok => ok_addU X ok) (v_add G.K) (two_v (v_op 2 (by kernel_rfl)) (SE.op se_int)))))) rfl))))
 (ss_one (v_set 4 (so_op (fun X ok => ok_addU X ok) (v_add G.K) (two_v (SE.op (SO.se (so_op (fun X ok => ok_addU X ok) (v_add G.K) (two_s (SO.se (so_sl (v_op 4 (by kernel_rfl)) sp_no (sp_of (v_se 6 (by kernel_rfl))))) (SE.op (SO.se (so_lc (lcP (own := [("letter", 7)]) (si_any (v_se 1 (by kernel_rfl))) (v_tg 7 (by kernel_rfl)) sbs_nil (SO.se (so_op (fun X ok => ok_addU X ok) (v_add G.K) (two_v (SE.op (SO.se (so_ix (two_v (v_op 4 (by kernel_rfl)) (v_op 6 (by kernel_rfl))) (fun _ _ => rfl)))) (v_op 7 (by kernel_rfl))))) (by kernel_rfl)) (fun _ _ => rfl)))))))) (SE.op (SO.se (so_sl (v_op 4 (by kernel_rfl)) (sp_of (SO.se (so_op (fun X ok => ok_addU X ok) (v_add G.K) (two_v (v_op 6 (by kernel_rfl)) (SE.op se_int))))) sp_no))))) (by kernel_rfl) (fun _ _ => rfl)))
 ss_nil)))) (fun _ _ => rfl))
 ((ss_cons (v_set 4 (so_sl (SE.op (SO.se (v_call (js := [some 0, none]) (fk__law_mixed h) (Kn.g__law_mixed h) (v_lent 0 (by kernel_rfl) (sx_val (v_fz 4 (by kernel_rfl)) sx_nil (fun _ _ => rfl))) (by kernel_rfl) (fun _ _ => rfl) (fun _ => rfl)))) sp_no (sp_of (v_se 2 (by kernel_rfl)))) (by kernel_rfl) (fun _ _ => rfl))
 ((ss_one (st_ret (so_if (SW.sb (sw_and (sb_cmp (fun X ok => ok_gtU) (v_gt G.K) (two_v (SE.op (SO.se (so_len (blt_ok (by kernel_rfl) (Kn.f_len h)) (v_op 4 (by kernel_rfl)) (fun _ _ => rfl)))) (SE.op se_int)) rfl) (sw_and1 (sb_cmp (fun X ok => ok_eqU X ok) (v_eq G.K) (two_v (SE.op (SO.se (v_call (js := [some 0, none]) (fk__law_sip h) (Kn.g__law_sip h) (v_lent 0 (by kernel_rfl) (sx_val se_int sx_nil (fun _ _ => rfl))) (by kernel_rfl) (fun _ _ => rfl) (fun _ => rfl)))) (SE.op se_int)) rfl)))) (so_sl (v_op 4 (by kernel_rfl)) (sp_of se_int) sp_no) (v_mv 4 (by kernel_rfl)))))))))))
theorem fk__law_leaves {G : Gb} (h : Kn G) : FnK G 9 (He.ga G.K "_law_leaves") 4 C__law_leaves m__law_leaves := by
  obtain ⟨hp, X, N, c⟩ := h.ex
  obtain ⟨fd, F⟩ := c.def_ 5
  exact fnK_of (C := C__law_leaves) (ps := ["well", "abc", "cap", "most"]) F (scB_ok (by kernel_rfl)) rfl (ss__law_leaves h) (fd_binds F fun _ _ _ _ _ _ us hl => match us, hl with | [_, _, _, _], _ => rfl)
/-! ### _law_word -/
abbrev C__law_word : Ct := ⟨N__law_word, defScope (topOf P 25), fun _ => true, 8, [0]⟩
theorem ss__law_word {G : Gb} (h : Kn G) : SSs G C__law_word (defBody (topOf P 25)) m__law_word := by
  unfold m__law_word
  exact (ss_one (st_ret (so_join (se_str [] (by kernel_rfl)) (SE.op (SO.se (so_lc (lcP (own := [("k", 4)]) (si_range1 (blt_ok (by kernel_rfl) (Kn.f_range h)) (sa_cons (SO.se (so_op (fun X ok => ok_addU X ok) (v_add G.K) (two_s (v_se 2 (by kernel_rfl)) (SE.op (SO.se (v_call (js := [some 0, none]) (fk__law_sip h) (Kn.g__law_sip h) (v_lent 0 (by kernel_rfl) (sx_val (SO.se (so_op (fun X ok => ok_addU X ok) (v_add G.K) (two_v (SE.op (SO.se (so_op (fun X ok => op_sub) (v_sub G.K) (two_v (v_op 3 (by kernel_rfl)) (v_op 2 (by kernel_rfl)))))) (SE.op se_int)))) sx_nil (fun _ _ => rfl))) (by kernel_rfl) (fun _ _ => rfl) (fun _ => rfl))))))) sa_nil (fun _ _ => rfl)) (fun _ => rfl)) (v_tg 4 (by kernel_rfl)) sbs_nil (SO.se (v_call (js := [some 0, none]) (fk__law_pick h) (Kn.g__law_pick h) (v_lent 0 (by kernel_rfl) (sx_val (v_se 1 (by kernel_rfl)) sx_nil (fun _ _ => rfl))) (by kernel_rfl) (fun _ _ => rfl) (fun _ => rfl))) (by kernel_rfl)) (fun _ _ => rfl)))) (fun _ => rfl) (fun _ => rfl) rfl)))
theorem fk__law_word {G : Gb} (h : Kn G) : FnK G 9 (He.ga G.K "_law_word") 4 C__law_word m__law_word := by
  obtain ⟨hp, X, N, c⟩ := h.ex
  obtain ⟨fd, F⟩ := c.def_ 6
  exact fnK_of (C := C__law_word) (ps := ["well", "abc", "least", "most"]) F (scB_ok (by kernel_rfl)) rfl (ss__law_word h) (fd_binds F fun _ _ _ _ _ _ us hl => match us, hl with | [_, _, _, _], _ => rfl)
/-! ### _law_words -/
abbrev C__law_words : Ct := ⟨N__law_words, defScope (topOf P 28), fun _ => true, 12, [0]⟩
theorem ss__law_words {G : Gb} (h : Kn G) : SSs G C__law_words (defBody (topOf P 28)) m__law_words := by
  unfold m__law_words
  exact (ss_cons (v_set 4 (v_call (js := [some 0, none]) (fk__law_sip h) (Kn.g__law_sip h) (v_lent 0 (by kernel_rfl) (sx_val se_int sx_nil (fun _ _ => rfl))) (by kernel_rfl) (fun _ _ => rfl) (fun _ => rfl)) (by kernel_rfl) (fun _ _ => rfl))
 ((ss_cons (st_if (sb_cmp (fun X ok => ok_inU X ok) (v_in G.K) (two_v (v_op 4 (by kernel_rfl)) (SE.op (SO.se (so_tup (sa_cons se_int (sa_cons se_int sa_nil (fun _ _ => rfl)) (fun _ _ => rfl)))))) rfl)
 (ss_cons (v_set 5 (v_call (js := [some 0, none, none, none]) (fk__law_leaves h) (Kn.g__law_leaves h) (v_lent 0 (by kernel_rfl) (sx_val (v_se 1 (by kernel_rfl)) (sx_val (v_se 2 (by kernel_rfl)) (sx_val (v_se 3 (by kernel_rfl)) sx_nil (fun _ _ => rfl)) (fun _ _ => rfl)) (fun _ _ => rfl))) (by kernel_rfl) (fun _ _ => rfl) (fun _ => rfl)) (by kernel_rfl) (fun _ _ => rfl))
 ((ss_one (st_ret (so_if (sb_cmp (fun X ok => ok_eqU X ok) (v_eq G.K) (two_v (v_op 4 (by kernel_rfl)) (SE.op se_int)) rfl) (v_mv 5 (by kernel_rfl)) (so_lc (lcP (own := [("word", 10)]) (si_any (v_fz 5 (by kernel_rfl))) (v_tg 10 (by kernel_rfl)) sbs_nil (SO.se (so_rev (v_op 10 (by kernel_rfl)))) (by kernel_rfl)) (fun _ _ => rfl)))))))
 ss_nil)
 ((ss_cons (v_set 6 (so_op (fun X ok => ok_addU X ok) (v_add G.K) (two_s se_int (SE.op (SO.se (v_call (js := [some 0, none]) (fk__law_sip h) (Kn.g__law_sip h) (v_lent 0 (by kernel_rfl) (sx_val (v_se 2 (by kernel_rfl)) sx_nil (fun _ _ => rfl))) (by kernel_rfl) (fun _ _ => rfl) (fun _ => rfl)))))) (by kernel_rfl) (fun _ _ => rfl))
 ((ss_cons (st_if (sb_cmp (fun X ok => ok_inU X ok) (v_in G.K) (two_v (v_op 4 (by kernel_rfl)) (SE.op (SO.se (so_tup (sa_cons se_int (sa_cons se_int sa_nil (fun _ _ => rfl)) (fun _ _ => rfl)))))) rfl)
 (ss_cons (v_set 7 (so_op (fun X ok => ok_addU X ok) (v_add G.K) (two_s se_int (SE.op (SO.se (v_call (js := [some 0, none]) (fk__law_sip h) (Kn.g__law_sip h) (v_lent 0 (by kernel_rfl) (sx_val se_int sx_nil (fun _ _ => rfl))) (by kernel_rfl) (fun _ _ => rfl) (fun _ => rfl)))))) (by kernel_rfl) (fun _ _ => rfl))
 ((ss_cons (v_set 8 (so_lc (lcP (own := [("k", 11)]) (si_range1 (blt_ok (by kernel_rfl) (Kn.f_range h)) (sa_cons (SO.se (so_op (fun X ok => op_sub) (v_sub G.K) (two_v (v_op 4 (by kernel_rfl)) (SE.op se_int)))) sa_nil (fun _ _ => rfl)) (fun _ => rfl)) (v_tg 11 (by kernel_rfl)) sbs_nil (SO.se (v_call (js := [some 0, none, none, none]) (fk__law_word h) (Kn.g__law_word h) (v_lent 0 (by kernel_rfl) (sx_val (v_se 1 (by kernel_rfl)) (sx_val se_int (sx_val (v_se 7 (by kernel_rfl)) sx_nil (fun _ _ => rfl)) (fun _ _ => rfl)) (fun _ _ => rfl))) (by kernel_rfl) (fun _ _ => rfl) (fun _ => rfl))) (by kernel_rfl)) (fun _ _ => rfl)) (by kernel_rfl) (fun env h => by cases env; cases h; rfl))
 ((ss_cons (v_setLc 9 (lcP (own := [("k", 11)]) (si_range1 (blt_ok (by kernel_rfl) (Kn.f_range h)) (sa_cons (v_se 6 (by kernel_rfl)) sa_nil (fun _ _ => rfl)) (fun _ => rfl)) (v_tg 11 (by kernel_rfl)) sbs_nil (SO.se (so_lc (lcP (own := [("j", 12)]) (si_range1 (blt_ok (by kernel_rfl) (Kn.f_range h)) (sa_cons (SO.se (so_op (fun X ok => ok_addU X ok) (v_add G.K) (two_s se_int (SE.op (SO.se (v_call (js := [some 0, none]) (fk__law_sip h) (Kn.g__law_sip h) (v_lent 0 (by kernel_rfl) (sx_val (SO.se (so_op (fun X ok => ok_divU X ok) (v_div G.K) (two_v (v_op 3 (by kernel_rfl)) (v_op 7 (by kernel_rfl))))) sx_nil (fun _ _ => rfl))) (by kernel_rfl) (fun _ _ => rfl) (fun _ => rfl))))))) sa_nil (fun _ _ => rfl)) (fun _ => rfl)) (v_tg 12 (by kernel_rfl)) sbs_nil (SO.se (v_call (js := [some 0, none]) (fk__law_pick h) (Kn.g__law_pick h) (v_lent 0 (by kernel_rfl) (sx_val (v_fz 8 (by kernel_rfl)) sx_nil (fun _ _ => rfl))) (by kernel_rfl) (fun _ _ => rfl) (fun _ => rfl))) (by kernel_rfl)) (fun _ _ => rfl))) (by kernel_rfl)) (by kernel_rfl) (fun _ _ => rfl))
 ((ss_one (st_ret (so_lc (lcP (own := [("parts", 13)]) (si_any (v_fz 9 (by kernel_rfl))) (v_tg 13 (by kernel_rfl)) sbs_nil (SO.se (so_join (se_str [] (by kernel_rfl)) (v_op 13 (by kernel_rfl)) (fun _ => rfl) (fun _ => rfl) rfl)) (by kernel_rfl)) (fun _ _ => rfl))))))))))
 ss_nil)
 ((ss_cons (v_set 7 (so_op (fun X ok => ok_addU X ok) (v_add G.K) (two_s se_int (SE.op (SO.se (v_call (js := [some 0, none]) (fk__law_sip h) (Kn.g__law_sip h) (v_lent 0 (by kernel_rfl) (sx_val (v_se 3 (by kernel_rfl)) sx_nil (fun _ _ => rfl))) (by kernel_rfl) (fun _ _ => rfl) (fun _ => rfl)))))) (by kernel_rfl) (fun _ _ => rfl))
 ((ss_cons (v_setLc 5 (lcP (own := [("k", 11)]) (si_range1 (blt_ok (by kernel_rfl) (Kn.f_range h)) (sa_cons (v_se 6 (by kernel_rfl)) sa_nil (fun _ _ => rfl)) (fun _ => rfl)) (v_tg 11 (by kernel_rfl)) sbs_nil (SO.se (v_call (js := [some 0, none, none, none]) (fk__law_word h) (Kn.g__law_word h) (v_lent 0 (by kernel_rfl) (sx_val (v_se 1 (by kernel_rfl)) (sx_val (se_if (sb_cmp (fun X ok => ok_eqU X ok) (v_eq G.K) (two_v (v_op 4 (by kernel_rfl)) (SE.op se_int)) rfl) (v_se 7 (by kernel_rfl)) se_int) (sx_val (se_if (sb_cmp (fun X ok => ok_eqU X ok) (v_eq G.K) (two_v (v_op 4 (by kernel_rfl)) (SE.op se_int)) rfl) (v_se 7 (by kernel_rfl)) (v_se 3 (by kernel_rfl))) sx_nil (fun _ _ => rfl)) (fun _ _ => rfl)) (fun _ _ => rfl))) (by kernel_rfl) (fun _ _ => rfl) (fun _ => rfl))) (by kernel_rfl)) (by kernel_rfl) (fun _ _ => rfl))
 ((ss_cons (st_if (SW.sb (sw_and (sb_cmp (fun X ok => ok_eqU X ok) (v_eq G.K) (two_v (v_op 4 (by kernel_rfl)) (SE.op se_int)) rfl) (sw_and1 (sb_cmp (fun X ok => ok_gtU) (v_gt G.K) (two_v (v_op 6 (by kernel_rfl)) (SE.op se_int)) rfl))))
 (ss_cons (st_setIx (SO.se (so_sl (SE.op (SO.se (so_op (fun X ok => ok_addU X ok) (v_add G.K) (two_s (SO.se (so_ix (two_v (v_op 5 (by kernel_rfl)) (SE.op se_int)) (fun _ _ => rfl))) (SE.op (SO.se (v_call (js := [some 0, none]) (fk__law_pick h) (Kn.g__law_pick h) (v_lent 0 (by kernel_rfl) (sx_val (SO.se (so_op (fun X ok => ok_addU X ok) (v_add G.K) (two_v (SE.op (SO.se (so_sl (v_op 5 (by kernel_rfl)) sp_no (sp_of (SO.se (so_neg (SE.op se_int))))))) (SE.op (SO.se (so_lst (sa_cons (se_str [] (by kernel_rfl)) sa_nil (fun _ _ => rfl)))))))) sx_nil (fun _ _ => rfl))) (by kernel_rfl) (fun _ _ => rfl) (fun _ => rfl)))))))) sp_no (sp_of (v_se 3 (by kernel_rfl))))) (v_pl 5 (by kernel_rfl)) (SO.se (so_neg (SE.op se_int))) (fun _ => rfl) (fun _ => rfl) (fun _ => rfl) (fun _ _ => rfl))
 ((ss_one (v_set 5 (v_call (js := [some 0, none]) (fk__law_mixed h) (Kn.g__law_mixed h) (v_lent 0 (by kernel_rfl) (sx_val (v_fz 5 (by kernel_rfl)) sx_nil (fun _ _ => rfl))) (by kernel_rfl) (fun _ _ => rfl) (fun _ => rfl)) (by kernel_rfl) (fun _ _ => rfl)))))
 ss_nil)
 ((ss_one (st_ret (v_mv 5 (by kernel_rfl))))))))))))))))))
theorem fk__law_words {G : Gb} (h : Kn G) : FnK G 13 (He.ga G.K "_law_words") 4 C__law_words m__law_words := by
  obtain ⟨hp, X, N, c⟩ := h.ex
  obtain ⟨fd, F⟩ := c.def_ 7
  exact fnK_of (C := C__law_words) (ps := ["well", "abc", "cap", "most"]) F (scB_ok (by kernel_rfl)) rfl (ss__law_words h) (fd_binds F fun _ _ _ _ _ _ us hl => match us, hl with | [_, _, _, _], _ => rfl)
/-! ### _law_late_words -/
abbrev C__law_late_words : Ct := ⟨N__law_late_words, defScope (topOf P 29), fun _ => true, 8, [0]⟩
theorem ss__law_late_words {G : Gb} (h : Kn G) : SSs G C__law_late_words (defBody (topOf P 29)) m__law_late_words := by
  unfold m__law_late_words
  exact (ss_cons (v_set 2 (so_lst (sa_cons (se_str [97, 98, 98, 32, 98, 98, 98, 97, 98, 32, 98, 98, 97, 97, 32, 98, 98, 98, 97] (by kernel_rfl)) (sa_cons (se_str [98, 97, 32, 97, 98, 98, 32, 98, 97, 98, 97, 98] (by kernel_rfl)) (sa_cons (se_str [97, 98, 97, 97, 32, 98, 32, 97, 97, 97, 97, 98, 32, 98, 98, 97, 98] (by kernel_rfl)) (sa_cons (se_str [97, 98, 32, 98, 97, 97, 98, 97, 32, 98, 97, 97] (by kernel_rfl)) (sa_cons (se_str [97, 32, 98, 98, 97, 98, 32, 97, 98, 98] (by kernel_rfl)) sa_nil (fun _ _ => rfl)) (fun _ _ => rfl)) (fun _ _ => rfl)) (fun _ _ => rfl)) (fun _ _ => rfl))) (by kernel_rfl) (fun _ _ => rfl))
 ((ss_cons (v_set 2 (so_op (fun X ok => ok_addU X ok) (v_add G.K) (two_v (v_op 2 (by kernel_rfl)) (SE.op (SO.se (so_lst (sa_cons (se_str [97, 98, 32, 97, 32, 98, 97, 98, 98, 97] (by kernel_rfl)) (sa_cons (se_str [97, 97, 97, 97, 98, 32, 98, 97, 98, 98, 98, 32, 97] (by kernel_rfl)) (sa_cons (se_str [97, 32, 97, 98, 32, 98, 98] (by kernel_rfl)) (sa_cons (se_str [97, 97, 98, 98, 97, 32, 97, 97, 98, 98, 32, 98, 98, 97, 97, 32, 97, 97, 97, 98] (by kernel_rfl)) (sa_cons (se_str [97, 32, 97, 98, 32, 97, 98, 98, 32, 98, 98, 98] (by kernel_rfl)) sa_nil (fun _ _ => rfl)) (fun _ _ => rfl)) (fun _ _ => rfl)) (fun _ _ => rfl)) (fun _ _ => rfl))))))) (by kernel_rfl) (fun _ _ => rfl))
 ((ss_cons (v_set 2 (v_call (js := [some 0, none]) (fk__law_pick h) (Kn.g__law_pick h) (v_lent 0 (by kernel_rfl) (sx_val (SO.se (so_op (fun X ok => ok_addU X ok) (v_add G.K) (two_v (v_op 2 (by kernel_rfl)) (SE.op (SO.se (so_lst (sa_cons (se_str [98, 32, 97, 98, 32, 97, 97, 98, 32, 97, 97, 98, 98, 98] (by kernel_rfl)) sa_nil (fun _ _ => rfl)))))))) sx_nil (fun _ _ => rfl))) (by kernel_rfl) (fun _ _ => rfl) (fun _ => rfl)) (by kernel_rfl) (fun _ _ => rfl))
 ((ss_cons (v_set 3 (so_sl (SE.op (SO.se (v_call (js := [some 0, none]) (fk__law_mixed h) (Kn.g__law_mixed h) (v_lent 0 (by kernel_rfl) (sx_val (v_se 1 (by kernel_rfl)) sx_nil (fun _ _ => rfl))) (by kernel_rfl) (fun _ _ => rfl) (fun _ => rfl)))) sp_no (sp_of se_int)) (by kernel_rfl) (fun _ _ => rfl))
 ((ss_cons (v_setLc 4 (lcP (own := [("word", 7)]) (si_any (SO.se (so_split (v_fz 2 (by kernel_rfl)) (SE.op (se_str [32] (by kernel_rfl))) (fun _ => rfl) (fun _ => rfl) rfl))) (v_tg 7 (by kernel_rfl)) sbs_nil (SO.se (so_join (se_str [] (by kernel_rfl)) (SE.op (SO.se (so_lc (lcP (own := [("sign", 8)]) (si_any (v_se 7 (by kernel_rfl))) (v_tg 8 (by kernel_rfl)) sbs_nil (SO.se (so_ix (two_v (v_op 3 (by kernel_rfl)) (SE.op (SO.se (so_int (blt_ok (by kernel_rfl) (Kn.f_int h)) (SE.op (se_cmp (fun X ok => ok_eqU X ok) (v_eq G.K) (two_v (v_op 8 (by kernel_rfl)) (SE.op (se_str [98] (by kernel_rfl)))) rfl)) (fun _ _ => rfl))))) (fun _ _ => rfl))) (by kernel_rfl)) (fun _ _ => rfl)))) (fun _ => rfl) (fun _ => rfl) rfl)) (by kernel_rfl)) (by kernel_rfl) (fun _ _ => rfl))
 ((ss_cons (st_if (sb_cmp (fun X ok => ok_eqU X ok) (v_eq G.K) (two_v (SE.op (SO.se (v_call (js := [some 0, none]) (fk__law_sip h) (Kn.g__law_sip h) (v_lent 0 (by kernel_rfl) (sx_val se_int sx_nil (fun _ _ => rfl))) (by kernel_rfl) (fun _ _ => rfl) (fun _ => rfl)))) (SE.op se_int)) rfl)
 (ss_cons (v_set 5 (v_call (js := [some 0, none]) (fk__law_sip h) (Kn.g__law_sip h) (v_lent 0 (by kernel_rfl) (sx_val (SO.se (so_len (blt_ok (by kernel_rfl) (Kn.f_len h)) (v_op 4 (by kernel_rfl)) (fun _ _ => rfl))) sx_nil (fun _ _ => rfl))) (by kernel_rfl) (fun _ _ => rfl) (fun _ => rfl)) (by kernel_rfl) (fun _ _ => rfl))
 ((ss_cons (v_set 6 (v_call (js := [some 0, none]) (fk__law_sip h) (Kn.g__law_sip h) (v_lent 0 (by kernel_rfl) (sx_val (SO.se (so_len (blt_ok (by kernel_rfl) (Kn.f_len h)) (SE.op (SO.se (so_ix (two_v (v_op 4 (by kernel_rfl)) (v_op 5 (by kernel_rfl))) (fun _ _ => rfl)))) (fun _ _ => rfl))) sx_nil (fun _ _ => rfl))) (by kernel_rfl) (fun _ _ => rfl) (fun _ => rfl)) (by kernel_rfl) (fun _ _ => rfl))
 ((ss_one (st_setIx (SO.se (so_op (fun X ok => ok_addU X ok) (v_add G.K) (two_v (SE.op (SO.se (so_op (fun X ok => ok_addU X ok) (v_add G.K) (two_s (SO.se (so_sl (SE.op (SO.se (so_ix (two_v (v_op 4 (by kernel_rfl)) (v_op 5 (by kernel_rfl))) (fun _ _ => rfl)))) sp_no (sp_of (v_se 6 (by kernel_rfl))))) (SE.op (SO.se (v_call (js := [some 0, none]) (fk__law_pick h) (Kn.g__law_pick h) (v_lent 0 (by kernel_rfl) (sx_val (v_se 1 (by kernel_rfl)) sx_nil (fun _ _ => rfl))) (by kernel_rfl) (fun _ _ => rfl) (fun _ => rfl)))))))) (SE.op (SO.se (so_sl (SE.op (SO.se (so_ix (two_v (v_op 4 (by kernel_rfl)) (v_op 5 (by kernel_rfl))) (fun _ _ => rfl)))) (sp_of (SO.se (so_op (fun X ok => ok_addU X ok) (v_add G.K) (two_v (v_op 6 (by kernel_rfl)) (SE.op se_int))))) sp_no)))))) (v_pl 4 (by kernel_rfl)) (v_se 5 (by kernel_rfl)) (fun _ => rfl) (fun _ => rfl) (fun _ => rfl) (fun _ _ => rfl)))))))
 ss_nil)
 ((ss_one (st_ret (v_call (js := [some 0, none]) (fk__law_mixed h) (Kn.g__law_mixed h) (v_lent 0 (by kernel_rfl) (sx_val (v_fz 4 (by kernel_rfl)) sx_nil (fun _ _ => rfl))) (by kernel_rfl) (fun _ _ => rfl) (fun _ => rfl))))))))))))))))
theorem fk__law_late_words {G : Gb} (h : Kn G) : FnK G 9 (He.ga G.K "_law_late_words") 2 C__law_late_words m__law_late_words := by
  obtain ⟨hp, X, N, c⟩ := h.ex
  obtain ⟨fd, F⟩ := c.def_ 8
  exact fnK_of (C := C__law_late_words) (ps := ["well", "abc"]) F (scB_ok (by kernel_rfl)) rfl (ss__law_late_words h) (fd_binds F fun _ _ _ _ _ _ us hl => match us, hl with | [_, _], _ => rfl)
/-! ### checked_signs -/
abbrev C_checked_signs : Ct := ⟨N_checked_signs, defScope (topOf P 9), fun _ => true, 0, []⟩
theorem ss_checked_signs {G : Gb} (h : Kn G) : SSs G C_checked_signs (defBody (topOf P 9)) m_checked_signs := by
  unfold m_checked_signs
  exact (ss_cons (v_set 1 (SE.so (se_str [] (by kernel_rfl))) (by kernel_rfl) (fun _ _ => rfl))
 ((ss_cons (st_for (si_any (v_se 0 (by kernel_rfl))) (v_tg 2 (by kernel_rfl))
 (ss_cons (st_if (SW.sb (sw_or (sb_cmp (fun X ok => ok_notInU X ok) (v_notIn G.K) (two_v (v_op 2 (by kernel_rfl)) (SE.op (se_glob [97, 98, 99, 100, 101, 102, 103, 104, 105, 106, 107, 108, 109, 110, 111, 112, 113, 114, 115, 116, 117, 118, 119, 120, 121, 122] (gloB_ok (by kernel_rfl)) (Kn.s_LETTERS h) (by kernel_rfl) (by kernel_rfl)))) rfl) (sw_or1 (sb_cmp (fun X ok => ok_leU) (v_le G.K) (two_v (v_op 2 (by kernel_rfl)) (v_op 1 (by kernel_rfl))) rfl))))
 ss_no
 ss_nil)
 ((ss_one (v_set 1 (SE.so (v_se 2 (by kernel_rfl))) (by kernel_rfl) (fun _ _ => rfl))))) (fun _ _ => rfl))
 ((ss_one (st_if (sb_cmp (fun X ok => ok_eqU X ok) (v_eq G.K) (two_v (v_op 0 (by kernel_rfl)) (SE.op (se_str [] (by kernel_rfl)))) rfl)
 ss_no
 ss_nil))))))
theorem fk_checked_signs {G : Gb} (h : Kn G) : FnK G 1 (He.ga G.K "checked_signs") 1 C_checked_signs m_checked_signs := by
  obtain ⟨hp, X, N, c⟩ := h.ex
  obtain ⟨fd, F⟩ := c.def_ 9
  exact fnK_of (C := C_checked_signs) (ps := ["signs"]) F (scB_ok (by kernel_rfl)) rfl (ss_checked_signs h) (fd_binds F fun _ _ _ _ _ _ us hl => match us, hl with | [_], _ => rfl)
/-! ### known -/
abbrev C_known : Ct := ⟨N_known, defScope (topOf P 10), fun _ => true, 0, []⟩
theorem ss_known {G : Gb} (h : Kn G) : SSs G C_known (defBody (topOf P 10)) m_known := by
  unfold m_known
  exact (ss_one (st_for (si_any (v_se 0 (by kernel_rfl))) (v_tg 2 (by kernel_rfl))
 (ss_one (st_if (sb_cmp (fun X ok => ok_notInU X ok) (v_notIn G.K) (two_v (v_op 2 (by kernel_rfl)) (v_op 1 (by kernel_rfl))) rfl)
 ss_no
 ss_nil)) (fun _ _ => rfl)))
theorem fk_known {G : Gb} (h : Kn G) : FnK G 1 (He.ga G.K "known") 2 C_known m_known := by
  obtain ⟨hp, X, N, c⟩ := h.ex
  obtain ⟨fd, F⟩ := c.def_ 10
  exact fnK_of (C := C_known) (ps := ["message", "signs"]) F (scB_ok (by kernel_rfl)) rfl (ss_known h) (fd_binds F fun _ _ _ _ _ _ us hl => match us, hl with | [_, _], _ => rfl)
/-! ### Book___init__ -/
abbrev C_Book___init__ : Ct := ⟨N_Book___init__, defScope (inClass (topOf P 12) 0), fun _ => true, 4, [0]⟩
theorem ss_Book___init__ {G : Gb} (h : Kn G) : SSs G C_Book___init__ (defBody (inClass (topOf P 12) 0)) m_Book___init__ := by
  unfold m_Book___init__
  exact (ss_cons (st_expr (v_call (js := [none]) (fk_checked_signs h) (Kn.g_checked_signs h) (sx_val (v_se 1 (by kernel_rfl)) sx_nil (fun _ _ => rfl)) (by kernel_rfl) (fun _ _ => rfl) (fun _ => rfl)) (fun _ => rfl))
 ((ss_cons (st_expr (v_call (js := [none]) (fk_checked_signs h) (Kn.g_checked_signs h) (sx_val (v_se 3 (by kernel_rfl)) sx_nil (fun _ _ => rfl)) (by kernel_rfl) (fun _ _ => rfl) (fun _ => rfl)) (fun _ => rfl))
 ((ss_cons (st_if (sb_cmp (fun X ok => ok_neU X ok) (v_ne G.K) (two_v (SE.op (SO.se (so_len (blt_ok (by kernel_rfl) (Kn.f_len h)) (v_op 2 (by kernel_rfl)) (fun _ _ => rfl)))) (SE.op (SO.se (so_len (blt_ok (by kernel_rfl) (Kn.f_len h)) (v_op 1 (by kernel_rfl)) (fun _ _ => rfl))))) rfl)
 ss_no
 ss_nil)
 ((ss_cons (st_if (sb_cmp (fun X ok => ok_inU X ok) (v_in G.K) (two_v (SE.op (se_str [] (by kernel_rfl))) (v_op 2 (by kernel_rfl))) rfl)
 ss_no
 ss_nil)
 ((ss_cons (st_for (si_any (v_se 2 (by kernel_rfl))) (v_tg 4 (by kernel_rfl))
 (ss_one (st_expr (v_call (js := [none, none]) (fk_known h) (Kn.g_known h) (sx_val (v_se 4 (by kernel_rfl)) (sx_val (v_se 3 (by kernel_rfl)) sx_nil (fun _ _ => rfl)) (fun _ _ => rfl)) (by kernel_rfl) (fun _ _ => rfl) (fun _ => rfl)) (fun _ => rfl))) (fun _ _ => rfl))
 ((ss_cons (st_fld (SE.so (v_se 1 (by kernel_rfl))) (v_pl 0 (by kernel_rfl)) (Kn.c_Book h) (Kn.n_Book__signs h) (fun _ => rfl))
 ((ss_cons (st_fld (so_list (blt_ok (by kernel_rfl) (Kn.f_list h)) (v_op 2 (by kernel_rfl)) (fun _ _ => rfl)) (v_pl 0 (by kernel_rfl)) (Kn.c_Book h) (Kn.n_Book__words h) (fun _ => rfl))
 ((ss_one (st_fld (SE.so (v_se 3 (by kernel_rfl))) (v_pl 0 (by kernel_rfl)) (Kn.c_Book h) (Kn.n_Book__letters h) (fun _ => rfl)))))))))))))))))
theorem fk_Book___init__ {G : Gb} (h : Kn G) : FnK G 5 (He.ma G.K (He.ga G.K "Book") "__init__") 4 C_Book___init__ m_Book___init__ := by
  obtain ⟨hp, X, N, c⟩ := h.ex
  obtain ⟨fd, F⟩ := c.def_ 11
  exact fnK_of (C := C_Book___init__) (ps := ["self", "signs", "words", "letters"]) F (scB_ok (by kernel_rfl)) rfl (ss_Book___init__ h) (fd_binds F fun _ _ _ _ _ _ us hl => match us, hl with | [_, _, _, _], _ => rfl)
/-! ### _law_alike -/
abbrev C__law_alike : Ct := ⟨N__law_alike, defScope (topOf P 31), fun _ => true, 0, []⟩
theorem ss__law_alike {G : Gb} (h : Kn G) : SSs G C__law_alike (defBody (topOf P 31)) m__law_alike := by
  unfold m__law_alike
  exact (ss_cons (v_set 4 (so_lst (sa_cons (SO.se (so_tup (sa_cons (v_se 1 (by kernel_rfl)) (sa_cons (v_se 2 (by kernel_rfl)) sa_nil (fun _ _ => rfl)) (fun _ _ => rfl)))) sa_nil (fun _ _ => rfl))) (by kernel_rfl) (fun _ _ => rfl))
 ((ss_cons (st_for (si_range1 (blt_ok (by kernel_rfl) (Kn.f_range h)) (sa_cons (SO.se (so_op (fun X ok => ok_addU X ok) (v_add G.K) (two_v (v_op 3 (by kernel_rfl)) (SE.op se_int)))) sa_nil (fun _ _ => rfl)) (fun _ => rfl)) (v_tg 5 (by kernel_rfl))
 (ss_cons (v_set 6 (so_lst sa_nil) (by kernel_rfl) (fun _ _ => rfl))
 ((ss_cons (st_for (si_any (v_fz 4 (by kernel_rfl))) (tg_tup (tgs_cons (v_tg 7 (by kernel_rfl)) (tgs_cons (v_tg 8 (by kernel_rfl)) tgs_nil (fun _ => rfl)) (fun _ => rfl)) (tgC_len (tgC_len tg0_len)) (fun _ => rfl) (fun _ => rfl))
 (ss_one (st_if (sb_cmp (fun X ok => ok_eqU X ok) (v_eq G.K) (two_v (SE.op (SO.se (so_ix (two_v (v_op 7 (by kernel_rfl)) (SE.op se_int)) (fun _ _ => rfl)))) (SE.op (SO.se (so_ix (two_v (v_op 8 (by kernel_rfl)) (SE.op se_int)) (fun _ _ => rfl))))) rfl)
 (ss_cons (v_set 9 (so_if (sb_cmp (fun X ok => ok_gtU) (v_gt G.K) (two_v (SE.op (SO.se (so_len (blt_ok (by kernel_rfl) (Kn.f_len h)) (v_op 7 (by kernel_rfl)) (fun _ _ => rfl)))) (SE.op se_int)) rfl) (so_lst (sa_cons (SO.se (so_sl (v_op 7 (by kernel_rfl)) (sp_of se_int) sp_no)) sa_nil (fun _ _ => rfl))) (SE.so (v_se 0 (by kernel_rfl)))) (by kernel_rfl) (fun _ _ => rfl))
 ((ss_cons (v_set 10 (so_if (sb_cmp (fun X ok => ok_gtU) (v_gt G.K) (two_v (SE.op (SO.se (so_len (blt_ok (by kernel_rfl) (Kn.f_len h)) (v_op 8 (by kernel_rfl)) (fun _ _ => rfl)))) (SE.op se_int)) rfl) (so_lst (sa_cons (SO.se (so_sl (v_op 8 (by kernel_rfl)) (sp_of se_int) sp_no)) sa_nil (fun _ _ => rfl))) (SE.so (v_se 0 (by kernel_rfl)))) (by kernel_rfl) (fun _ _ => rfl))
 ((ss_cons (st_if (SW.sb (sw_and (sb_cmp (fun X ok => ok_eqU X ok) (v_eq G.K) (two_v (SE.op (SO.se (so_len (blt_ok (by kernel_rfl) (Kn.f_len h)) (v_op 7 (by kernel_rfl)) (fun _ _ => rfl)))) (SE.op se_int)) rfl) (sw_and1 (sb_cmp (fun X ok => ok_eqU X ok) (v_eq G.K) (two_v (SE.op (SO.se (so_len (blt_ok (by kernel_rfl) (Kn.f_len h)) (v_op 8 (by kernel_rfl)) (fun _ _ => rfl)))) (SE.op se_int)) rfl))))
 (ss_one (st_ret (so_op (fun X ok => ok_addU X ok) (v_add G.K) (two_v (v_op 3 (by kernel_rfl)) (SE.op se_int)))))
 ss_nil)
 ((ss_one (st_for (si_any (v_fz 9 (by kernel_rfl))) (v_tg 11 (by kernel_rfl))
 (ss_one (st_expr (so_extend (b := false) (v_pl 6 (by kernel_rfl)) (sa_cons (SO.se (so_lc (lcP (own := [("part", 12)]) (si_any (v_fz 10 (by kernel_rfl))) (v_tg 12 (by kernel_rfl)) sbs_nil (SO.se (so_tup (sa_cons (v_se 11 (by kernel_rfl)) (sa_cons (v_se 12 (by kernel_rfl)) sa_nil (fun _ _ => rfl)) (fun _ _ => rfl)))) (by kernel_rfl)) (fun _ _ => rfl))) sa_nil (fun _ _ => rfl)) (.inr rfl) (fun _ => rfl) (fun _ _ => rfl) rfl (fun _ => rfl)) (fun _ => rfl))) (fun _ _ => rfl)))))))))
 ss_nil)) (fun _ _ => rfl))
 ((ss_cons (st_if (sb_cmp (fun X ok => ok_eqU X ok) (v_eq G.K) (two_v (v_op 6 (by kernel_rfl)) (SE.op (SO.se (so_lst sa_nil)))) rfl)
 (ss_one (st_ret (SE.so (v_se 5 (by kernel_rfl)))))
 ss_nil)
 ((ss_one (v_set 4 (so_sortedSet (blt_ok (by kernel_rfl) (Kn.f_sorted h)) (blt_ok (by kernel_rfl) (Kn.f_set h)) (v_op 6 (by kernel_rfl)) (fun _ _ => rfl) (fun _ _ => rfl)) (by kernel_rfl) (fun _ _ => rfl))))))))) (fun _ _ => rfl))
 ((ss_one (st_ret (so_op (fun X ok => ok_addU X ok) (v_add G.K) (two_v (v_op 3 (by kernel_rfl)) (SE.op se_int)))))))))
theorem fk__law_alike {G : Gb} (h : Kn G) : FnK G 1 (He.ga G.K "_law_alike") 4 C__law_alike m__law_alike := by
  obtain ⟨hp, X, N, c⟩ := h.ex
  obtain ⟨fd, F⟩ := c.def_ 12
  exact fnK_of (C := C__law_alike) (ps := ["row", "near", "far", "most"]) F (scB_ok (by kernel_rfl)) rfl (ss__law_alike h) (fd_binds F fun _ _ _ _ _ _ us hl => match us, hl with | [_, _, _, _], _ => rfl)
/-! ### _law_delay -/
abbrev C__law_delay : Ct := ⟨N__law_delay, defScope (topOf P 32), fun _ => true, 4, []⟩
theorem ss__law_delay {G : Gb} (h : Kn G) : SSs G C__law_delay (defBody (topOf P 32)) m__law_delay := by
  unfold m__law_delay
  exact (ss_cons (v_parU2 1 2 (sq_cons (so_lst sa_nil) (sq_cons (SE.so se_int) sq_nil (fun _ _ => rfl)) (fun _ _ => rfl)) (by kernel_rfl) (by kernel_rfl) (fun _ => rfl) (fun _ => rfl) (fun _ => rfl) (fun _ => rfl) (fun _ => rfl) (fun env h => by cases env; cases h; rfl) (fun _ => rfl))
 ((ss_cons (st_for (si_any (v_se 0 (by kernel_rfl))) (v_tg 3 (by kernel_rfl))
 (ss_one (st_expr (so_extend (b := false) (v_pl 1 (by kernel_rfl)) (sa_cons (SO.se (so_lc (lcP (own := [("k", 5)]) (si_range2 (blt_ok (by kernel_rfl) (Kn.f_range h)) (sa_cons se_int (sa_cons (SO.se (so_len (blt_ok (by kernel_rfl) (Kn.f_len h)) (v_op 3 (by kernel_rfl)) (fun _ _ => rfl))) sa_nil (fun _ _ => rfl)) (fun _ _ => rfl)) (fun _ => rfl) (fun _ => rfl)) (v_tg 5 (by kernel_rfl)) (sbs_one (sb_cmp (fun X ok => ok_notInU X ok) (v_notIn G.K) (two_v (SE.op (SO.se (so_sl (v_op 3 (by kernel_rfl)) (sp_of (v_se 5 (by kernel_rfl))) sp_no))) (v_op 1 (by kernel_rfl))) rfl)) (SO.se (so_sl (v_op 3 (by kernel_rfl)) (sp_of (v_se 5 (by kernel_rfl))) sp_no)) (by kernel_rfl)) (fun _ _ => rfl))) sa_nil (fun _ _ => rfl)) (.inr rfl) (fun _ => rfl) (fun _ _ => rfl) rfl (fun _ => rfl)) (fun _ => rfl))) (fun _ _ => rfl))
 ((ss_cons (v_set 4 (so_op (fun X ok => ok_addU X ok) (v_add G.K) (two_s (SO.se (so_max (blt_ok (by kernel_rfl) (Kn.f_max h)) (SE.op (SO.se (so_lc (lcP (own := [("word", 3)]) (si_any (v_se 0 (by kernel_rfl))) (v_tg 3 (by kernel_rfl)) sbs_nil (SO.se (so_len (blt_ok (by kernel_rfl) (Kn.f_len h)) (v_op 3 (by kernel_rfl)) (fun _ _ => rfl))) (by kernel_rfl)) (fun _ _ => rfl)))) (fun _ _ => rfl))) (SE.op (SO.se (so_sum (blt_ok (by kernel_rfl) (Kn.f_sum h)) (SE.op (SO.se (so_lc (lcP (own := [("end", 8)]) (si_any (v_fz 1 (by kernel_rfl))) (v_tg 8 (by kernel_rfl)) sbs_nil (SO.se (so_len (blt_ok (by kernel_rfl) (Kn.f_len h)) (v_op 8 (by kernel_rfl)) (fun _ _ => rfl))) (by kernel_rfl)) (fun _ _ => rfl)))) (fun _ _ => rfl)))))) (by kernel_rfl) (fun _ _ => rfl))
 ((ss_cons (st_for (si_range1 (blt_ok (by kernel_rfl) (Kn.f_range h)) (sa_cons (SO.se (so_len (blt_ok (by kernel_rfl) (Kn.f_len h)) (v_op 0 (by kernel_rfl)) (fun _ _ => rfl))) sa_nil (fun _ _ => rfl)) (fun _ => rfl)) (v_tg 5 (by kernel_rfl))
 (ss_one (st_for (si_range1 (blt_ok (by kernel_rfl) (Kn.f_range h)) (sa_cons (v_se 5 (by kernel_rfl)) sa_nil (fun _ _ => rfl)) (fun _ => rfl)) (v_tg 6 (by kernel_rfl))
 (ss_cons (v_set 7 (v_call (js := [none, none, none, none]) (fk__law_alike h) (Kn.g__law_alike h) (sx_val (v_se 0 (by kernel_rfl)) (sx_val (SO.se (so_ix (two_v (v_op 0 (by kernel_rfl)) (v_op 5 (by kernel_rfl))) (fun _ _ => rfl))) (sx_val (SO.se (so_ix (two_v (v_op 0 (by kernel_rfl)) (v_op 6 (by kernel_rfl))) (fun _ _ => rfl))) (sx_val (v_se 4 (by kernel_rfl)) sx_nil (fun _ _ => rfl)) (fun _ _ => rfl)) (fun _ _ => rfl)) (fun _ _ => rfl)) (by kernel_rfl) (fun _ _ => rfl) (fun _ => rfl)) (by kernel_rfl) (fun _ _ => rfl))
 ((ss_cons (st_if (sb_cmp (fun X ok => ok_gtU) (v_gt G.K) (two_v (v_op 7 (by kernel_rfl)) (v_op 4 (by kernel_rfl))) rfl)
 (ss_one (st_ret (SE.so se_non)))
 ss_nil)
 ((ss_one (v_set 2 (so_max2 (blt_ok (by kernel_rfl) (Kn.f_max h)) (sa_cons (v_se 2 (by kernel_rfl)) (sa_cons (SO.se (so_op (fun X ok => ok_addU X ok) (v_add G.K) (two_v (SE.op (SO.se (so_op (fun X ok => op_sub) (v_sub G.K) (two_v (v_op 7 (by kernel_rfl)) (SE.op (SO.se (so_min2 (blt_ok (by kernel_rfl) (Kn.f_min h)) (sa_cons (SO.se (so_len (blt_ok (by kernel_rfl) (Kn.f_len h)) (SE.op (SO.se (so_ix (two_v (v_op 0 (by kernel_rfl)) (v_op 5 (by kernel_rfl))) (fun _ _ => rfl)))) (fun _ _ => rfl))) (sa_cons (SO.se (so_len (blt_ok (by kernel_rfl) (Kn.f_len h)) (SE.op (SO.se (so_ix (two_v (v_op 0 (by kernel_rfl)) (v_op 6 (by kernel_rfl))) (fun _ _ => rfl)))) (fun _ _ => rfl))) sa_nil (fun _ _ => rfl)) (fun _ _ => rfl)) (fun _ _ => rfl) (fun _ => rfl)))))))) (SE.op se_int)))) sa_nil (fun _ _ => rfl)) (fun _ _ => rfl)) (fun _ _ => rfl) (fun _ => rfl)) (by kernel_rfl) (fun _ _ => rfl))))))) (fun _ _ => rfl))) (fun _ _ => rfl))
 ((ss_one (st_ret (SE.so (v_se 2 (by kernel_rfl)))))))))))))
theorem fk__law_delay {G : Gb} (h : Kn G) : FnK G 5 (He.ga G.K "_law_delay") 1 C__law_delay m__law_delay := by
  obtain ⟨hp, X, N, c⟩ := h.ex
  obtain ⟨fd, F⟩ := c.def_ 13
  exact fnK_of (C := C__law_delay) (ps := ["row"]) F (scB_ok (by kernel_rfl)) rfl (ss__law_delay h) (fd_binds F fun _ _ _ _ _ _ us hl => match us, hl with | [_], _ => rfl)
/-! ### Book_words -/
abbrev C_Book_words : Ct := ⟨N_Book_words, defScope (inClass (topOf P 12) 2), fun _ => true, 0, []⟩
theorem ss_Book_words {G : Gb} (h : Kn G) : SSs G C_Book_words (defBody (inClass (topOf P 12) 2)) m_Book_words := by
  unfold m_Book_words
  exact (ss_one (st_ret (so_list (blt_ok (by kernel_rfl) (Kn.f_list h)) (SE.op (se_fld (Kn.c_Book h) (Kn.n_Book__words h) (v_se 0 (by kernel_rfl)) (fun _ => rfl))) (fun _ _ => rfl))))
theorem fk_Book_words {G : Gb} (h : Kn G) : FnK G 1 (propG G.K "Book" "words") 1 C_Book_words m_Book_words := by
  obtain ⟨hp, X, N, c⟩ := h.ex
  obtain ⟨fd, F⟩ := c.def_ 14
  exact fnK_of (C := C_Book_words) (ps := ["self"]) F (scB_ok (by kernel_rfl)) rfl (ss_Book_words h) (fd_binds F fun _ _ _ _ _ _ us hl => match us, hl with | [_], _ => rfl)
/-! ### rest_of -/
abbrev C_rest_of : Ct := ⟨N_rest_of, defScope (topOf P 13), fun _ => true, 0, []⟩
theorem ss_rest_of {G : Gb} (h : Kn G) : SSs G C_rest_of (defBody (topOf P 13)) m_rest_of := by
  unfold m_rest_of
  exact (ss_cons (st_if (sb_tru (SE.op (SO.se (so_sw (v_se 0 (by kernel_rfl)) (v_op 1 (by kernel_rfl)) (fun _ => rfl) (fun _ => rfl) rfl))) (fun _ _ => rfl))
 (ss_one (st_ret (so_sl (v_op 0 (by kernel_rfl)) (sp_of (SO.se (so_len (blt_ok (by kernel_rfl) (Kn.f_len h)) (v_op 1 (by kernel_rfl)) (fun _ _ => rfl)))) sp_no)))
 ss_nil)
 ((ss_cons (st_if (sb_tru (SE.op (SO.se (so_sw (v_se 1 (by kernel_rfl)) (v_op 0 (by kernel_rfl)) (fun _ => rfl) (fun _ => rfl) rfl))) (fun _ _ => rfl))
 (ss_one (st_ret (so_sl (v_op 1 (by kernel_rfl)) (sp_of (SO.se (so_len (blt_ok (by kernel_rfl) (Kn.f_len h)) (v_op 0 (by kernel_rfl)) (fun _ _ => rfl)))) sp_no)))
 ss_nil)
 ((ss_one (st_ret (SE.so se_non)))))))
theorem fk_rest_of {G : Gb} (h : Kn G) : FnK G 1 (He.ga G.K "rest_of") 2 C_rest_of m_rest_of := by
  obtain ⟨hp, X, N, c⟩ := h.ex
  obtain ⟨fd, F⟩ := c.def_ 15
  exact fnK_of (C := C_rest_of) (ps := ["one", "other"]) F (scB_ok (by kernel_rfl)) rfl (ss_rest_of h) (fd_binds F fun _ _ _ _ _ _ us hl => match us, hl with | [_, _], _ => rfl)
/-! ### first_rests -/
abbrev C_first_rests : Ct := ⟨N_first_rests, defScope (topOf P 14), fun _ => true, 4, []⟩
theorem ss_first_rests {G : Gb} (h : Kn G) : SSs G C_first_rests (defBody (topOf P 14)) m_first_rests := by
  unfold m_first_rests
  exact (ss_cons (v_set 1 (so_lst sa_nil) (by kernel_rfl) (fun _ _ => rfl))
 ((ss_cons (st_for (si_enum (blt_ok (by kernel_rfl) (Kn.f_enumerate h)) (sa_cons (v_se 0 (by kernel_rfl)) sa_nil (fun _ _ => rfl)) (fun _ => rfl)) (tg_tup (tgs_cons (v_tg 2 (by kernel_rfl)) (tgs_cons (v_tg 3 (by kernel_rfl)) tgs_nil (fun _ => rfl)) (fun _ => rfl)) (tgC_len (tgC_len tg0_len)) (fun _ => rfl) (fun _ => rfl))
 (ss_one (st_for (si_any (SO.se (so_sl (v_op 0 (by kernel_rfl)) sp_no (sp_of (v_se 2 (by kernel_rfl)))))) (v_tg 4 (by kernel_rfl))
 (ss_cons (v_set 5 (v_call (js := [none, none]) (fk_rest_of h) (Kn.g_rest_of h) (sx_val (v_se 3 (by kernel_rfl)) (sx_val (v_se 4 (by kernel_rfl)) sx_nil (fun _ _ => rfl)) (fun _ _ => rfl)) (by kernel_rfl) (fun _ _ => rfl) (fun _ => rfl)) (by kernel_rfl) (fun _ _ => rfl))
 ((ss_one (st_if (SW.sb (sw_and (sb_cmp (fun X ok => ok_isNotU) (v_isNot G.K) (two_v (v_op 5 (by kernel_rfl)) (SE.op se_non)) rfl) (sw_and1 (sb_cmp (fun X ok => ok_notInU X ok) (v_notIn G.K) (two_v (v_op 5 (by kernel_rfl)) (v_op 1 (by kernel_rfl))) rfl))))
 (ss_one (st_expr (so_append (b := false) (v_pl 1 (by kernel_rfl)) (sa_cons (v_se 5 (by kernel_rfl)) sa_nil (fun _ _ => rfl)) (.inr rfl) (fun _ => rfl) (fun _ _ => rfl) rfl (fun _ => rfl)) (fun _ => rfl)))
 ss_nil)))) (fun _ _ => rfl))) (fun _ _ => rfl))
 ((ss_one (st_ret (v_mv 1 (by kernel_rfl))))))))
theorem fk_first_rests {G : Gb} (h : Kn G) : FnK G 5 (He.ga G.K "first_rests") 1 C_first_rests m_first_rests := by
  obtain ⟨hp, X, N, c⟩ := h.ex
  obtain ⟨fd, F⟩ := c.def_ 16
  exact fnK_of (C := C_first_rests) (ps := ["words"]) F (scB_ok (by kernel_rfl)) rfl (ss_first_rests h) (fd_binds F fun _ _ _ _ _ _ us hl => match us, hl with | [_], _ => rfl)
/-! ### dangling -/
abbrev C_dangling : Ct := ⟨N_dangling, defScope (topOf P 15), fun _ => true, 8, []⟩
theorem ss_dangling {G : Gb} (h : Kn G) : SSs G C_dangling (defBody (topOf P 15)) m_dangling := by
  unfold m_dangling
  exact (ss_cons (v_set 1 (v_call (js := [none]) (fk_first_rests h) (Kn.g_first_rests h) (sx_val (v_se 0 (by kernel_rfl)) sx_nil (fun _ _ => rfl)) (by kernel_rfl) (fun _ _ => rfl) (fun _ => rfl)) (by kernel_rfl) (fun _ _ => rfl))
 ((ss_cons (v_set 2 (SE.so se_int) (by kernel_rfl) (fun _ _ => rfl))
 ((ss_cons (st_while (sb_cmp (fun X ok => ok_ltU) (v_lt G.K) (two_v (v_op 2 (by kernel_rfl)) (SE.op (SO.se (so_len (blt_ok (by kernel_rfl) (Kn.f_len h)) (v_op 1 (by kernel_rfl)) (fun _ _ => rfl))))) rfl)
 (ss_cons (v_set 3 (so_ix (two_v (v_op 1 (by kernel_rfl)) (v_op 2 (by kernel_rfl))) (fun _ _ => rfl)) (by kernel_rfl) (fun _ _ => rfl))
 ((ss_cons (v_set 2 (so_op (fun X ok => ok_addU X ok) (v_add G.K) (two_v (v_op 2 (by kernel_rfl)) (SE.op se_int))) (by kernel_rfl) (fun _ _ => rfl))
 ((ss_cons (st_if (sb_cmp (fun X ok => ok_eqU X ok) (v_eq G.K) (two_v (v_op 3 (by kernel_rfl)) (SE.op (se_str [] (by kernel_rfl)))) rfl)
 (ss_one st_continue)
 ss_nil)
 ((ss_one (st_for (si_any (v_se 0 (by kernel_rfl))) (v_tg 4 (by kernel_rfl))
 (ss_cons (v_set 5 (v_call (js := [none, none]) (fk_rest_of h) (Kn.g_rest_of h) (sx_val (v_se 3 (by kernel_rfl)) (sx_val (v_se 4 (by kernel_rfl)) sx_nil (fun _ _ => rfl)) (fun _ _ => rfl)) (by kernel_rfl) (fun _ _ => rfl) (fun _ => rfl)) (by kernel_rfl) (fun _ _ => rfl))
 ((ss_one (st_if (SW.sb (sw_and (sb_cmp (fun X ok => ok_isNotU) (v_isNot G.K) (two_v (v_op 5 (by kernel_rfl)) (SE.op se_non)) rfl) (sw_and1 (sb_cmp (fun X ok => ok_notInU X ok) (v_notIn G.K) (two_v (v_op 5 (by kernel_rfl)) (v_op 1 (by kernel_rfl))) rfl))))
 (ss_one (st_expr (so_append (b := false) (v_pl 1 (by kernel_rfl)) (sa_cons (v_se 5 (by kernel_rfl)) sa_nil (fun _ _ => rfl)) (.inr rfl) (fun _ => rfl) (fun _ _ => rfl) rfl (fun _ => rfl)) (fun _ => rfl)))
 ss_nil)))) (fun _ _ => rfl))))))))))
 ((ss_one (st_ret (v_mv 1 (by kernel_rfl))))))))))
theorem fk_dangling {G : Gb} (h : Kn G) : FnK G 9 (He.ga G.K "dangling") 1 C_dangling m_dangling := by
  obtain ⟨hp, X, N, c⟩ := h.ex
  obtain ⟨fd, F⟩ := c.def_ 17
  exact fnK_of (C := C_dangling) (ps := ["words"]) F (scB_ok (by kernel_rfl)) rfl (ss_dangling h) (fd_binds F fun _ _ _ _ _ _ us hl => match us, hl with | [_], _ => rfl)
/-! ### alike_letters -/
abbrev C_alike_letters : Ct := ⟨N_alike_letters, defScope (topOf P 17), fun _ => true, 0, []⟩
theorem ss_alike_letters {G : Gb} (h : Kn G) : SSs G C_alike_letters (defBody (topOf P 17)) m_alike_letters := by
  unfold m_alike_letters
  exact (ss_cons (v_set 2 (SE.so se_int) (by kernel_rfl) (fun _ _ => rfl))
 ((ss_cons (st_while (SW.sb (sw_and (sb_cmp (fun X ok => ok_ltU) (v_lt G.K) (two_v (v_op 2 (by kernel_rfl)) (SE.op (SO.se (so_min2 (blt_ok (by kernel_rfl) (Kn.f_min h)) (sa_cons (SO.se (so_len (blt_ok (by kernel_rfl) (Kn.f_len h)) (v_op 0 (by kernel_rfl)) (fun _ _ => rfl))) (sa_cons (SO.se (so_len (blt_ok (by kernel_rfl) (Kn.f_len h)) (v_op 1 (by kernel_rfl)) (fun _ _ => rfl))) sa_nil (fun _ _ => rfl)) (fun _ _ => rfl)) (fun _ _ => rfl) (fun _ => rfl))))) rfl) (sw_and1 (sb_cmp (fun X ok => ok_eqU X ok) (v_eq G.K) (two_v (SE.op (SO.se (so_ix (two_v (v_op 0 (by kernel_rfl)) (v_op 2 (by kernel_rfl))) (fun _ _ => rfl)))) (SE.op (SO.se (so_ix (two_v (v_op 1 (by kernel_rfl)) (v_op 2 (by kernel_rfl))) (fun _ _ => rfl))))) rfl))))
 (ss_one (v_set 2 (so_op (fun X ok => ok_addU X ok) (v_add G.K) (two_v (v_op 2 (by kernel_rfl)) (SE.op se_int))) (by kernel_rfl) (fun _ _ => rfl))))
 ((ss_one (st_ret (SE.so (v_se 2 (by kernel_rfl)))))))))
theorem fk_alike_letters {G : Gb} (h : Kn G) : FnK G 1 (He.ga G.K "alike_letters") 2 C_alike_letters m_alike_letters := by
  obtain ⟨hp, X, N, c⟩ := h.ex
  obtain ⟨fd, F⟩ := c.def_ 18
  exact fnK_of (C := C_alike_letters) (ps := ["one", "other"]) F (scB_ok (by kernel_rfl)) rfl (ss_alike_letters h) (fd_binds F fun _ _ _ _ _ _ us hl => match us, hl with | [_, _], _ => rfl)
/-! ### alike_behind -/
abbrev C_alike_behind : Ct := ⟨N_alike_behind, defScope (topOf P 18), fun _ => true, 4, []⟩
theorem ss_alike_behind {G : Gb} (h : Kn G) : SSs G C_alike_behind (defBody (topOf P 18)) m_alike_behind := by
  unfold m_alike_behind
  exact (ss_cons (v_set 3 (v_call (js := [none, none]) (fk_alike_letters h) (Kn.g_alike_letters h) (sx_val (v_se 0 (by kernel_rfl)) (sx_val (v_se 1 (by kernel_rfl)) sx_nil (fun _ _ => rfl)) (fun _ _ => rfl)) (by kernel_rfl) (fun _ _ => rfl) (fun _ => rfl)) (by kernel_rfl) (fun _ _ => rfl))
 ((ss_cons (v_set 4 (v_call (js := [none, none]) (fk_rest_of h) (Kn.g_rest_of h) (sx_val (v_se 0 (by kernel_rfl)) (sx_val (v_se 1 (by kernel_rfl)) sx_nil (fun _ _ => rfl)) (fun _ _ => rfl)) (by kernel_rfl) (fun _ _ => rfl) (fun _ => rfl)) (by kernel_rfl) (fun _ _ => rfl))
 ((ss_one (st_ret (so_if (sb_cmp (fun X ok => ok_isU) (v_is G.K) (two_v (v_op 4 (by kernel_rfl)) (SE.op se_non)) rfl) (SE.so (v_se 3 (by kernel_rfl))) (so_op (fun X ok => ok_addU X ok) (v_add G.K) (two_v (v_op 3 (by kernel_rfl)) (SE.op (SO.se (so_dget (two_v (v_op 2 (by kernel_rfl)) (v_op 4 (by kernel_rfl))) (fun _ _ => rfl)))))))))))))
theorem fk_alike_behind {G : Gb} (h : Kn G) : FnK G 5 (He.ga G.K "alike_behind") 3 C_alike_behind m_alike_behind := by
  obtain ⟨hp, X, N, c⟩ := h.ex
  obtain ⟨fd, F⟩ := c.def_ 19
  exact fnK_of (C := C_alike_behind) (ps := ["rest", "word", "table"]) F (scB_ok (by kernel_rfl)) rfl (ss_alike_behind h) (fd_binds F fun _ _ _ _ _ _ us hl => match us, hl with | [_, _, _], _ => rfl)
/-! ### delay -/
abbrev C_delay : Ct := ⟨N_delay, defScope (topOf P 19), fun _ => true, 12, []⟩
theorem ss_delay {G : Gb} (h : Kn G) : SSs G C_delay (defBody (topOf P 19)) m_delay := by
  unfold m_delay
  exact (ss_cons (v_set 1 (so_prop (c := "Book") (fk_Book_words h) (by decide) (Kn.c_Book h) (Kn.p_Book_words h) (v_se 0 (by kernel_rfl)) (by decide) (fun _ => rfl)) (by kernel_rfl) (fun _ _ => rfl))
 ((ss_cons (v_set 2 (v_call (js := [none]) (fk_dangling h) (Kn.g_dangling h) (sx_val (v_fz 1 (by kernel_rfl)) sx_nil (fun _ _ => rfl)) (by kernel_rfl) (fun _ _ => rfl) (fun _ => rfl)) (by kernel_rfl) (fun _ _ => rfl))
 ((ss_cons (st_if (sb_cmp (fun X ok => ok_inU X ok) (v_in G.K) (two_v (SE.op (se_str [] (by kernel_rfl))) (v_op 2 (by kernel_rfl))) rfl)
 (ss_one (st_ret (SE.so se_non)))
 ss_nil)
 ((ss_cons (v_set 3 (so_dc (dcP (own := [("rest", 6)]) (si_any (v_fz 2 (by kernel_rfl))) (v_tg 6 (by kernel_rfl)) sbs_nil (v_se 6 (by kernel_rfl)) se_int (by kernel_rfl)) (fun _ _ => rfl)) (by kernel_rfl) (sw_cap (by kernel_rfl)))
 ((ss_cons (st_for (si_range1 (blt_ok (by kernel_rfl) (Kn.f_range h)) (sa_cons (SO.se (so_op (fun X ok => ok_addU X ok) (v_add G.K) (two_v (SE.op (SO.se (so_len (blt_ok (by kernel_rfl) (Kn.f_len h)) (v_op 2 (by kernel_rfl)) (fun _ _ => rfl)))) (SE.op se_int)))) sa_nil (fun _ _ => rfl)) (fun _ => rfl)) (v_tg 4 (by kernel_rfl))
 (ss_cons (v_setDc 5 (dcP (own := [("rest", 6)]) (si_any (v_fz 2 (by kernel_rfl))) (v_tg 6 (by kernel_rfl)) sbs_nil (v_se 6 (by kernel_rfl)) (SO.se (so_max (blt_ok (by kernel_rfl) (Kn.f_max h)) (SE.op (SO.se (so_lc (lcP (own := [("word", 7)]) (si_any (v_fz 1 (by kernel_rfl))) (v_tg 7 (by kernel_rfl)) sbs_nil (SO.se (v_call (js := [none, none, none]) (fk_alike_behind h) (Kn.g_alike_behind h) (sx_val (v_se 6 (by kernel_rfl)) (sx_val (v_se 7 (by kernel_rfl)) (sx_val (v_fz 3 (by kernel_rfl)) sx_nil (fun _ _ => rfl)) (fun _ _ => rfl)) (fun _ _ => rfl)) (by kernel_rfl) (fun _ _ => rfl) (fun _ => rfl))) (by kernel_rfl)) (fun _ _ => rfl)))) (fun _ _ => rfl))) (by kernel_rfl)) (by kernel_rfl) (fun _ _ => rfl))
 ((ss_cons (st_if (sb_cmp (fun X ok => ok_eqK X ok) (v_eqK G.K) (two_v (v_op 5 (by kernel_rfl)) (v_op 3 (by kernel_rfl))) rfl)
 (ss_one (st_ret (so_maxD (blt_ok (by kernel_rfl) (Kn.f_max h)) (SE.op (SO.se (so_lc (lcP (own := [("rest", 6)]) (si_any (SO.se (v_call (js := [none]) (fk_first_rests h) (Kn.g_first_rests h) (sx_val (v_fz 1 (by kernel_rfl)) sx_nil (fun _ _ => rfl)) (by kernel_rfl) (fun _ _ => rfl) (fun _ => rfl)))) (v_tg 6 (by kernel_rfl)) sbs_nil (SO.se (so_op (fun X ok => ok_addU X ok) (v_add G.K) (two_v (SE.op (SO.se (so_dget (two_v (v_op 3 (by kernel_rfl)) (v_op 6 (by kernel_rfl))) (fun _ _ => rfl)))) (SE.op se_int)))) (by kernel_rfl)) (fun _ _ => rfl)))) (fun _ _ => rfl) (fun _ => rfl) (fun _ => rfl) (fun _ => rfl) (fun _ => rfl) (fun _ => rfl))))
 ss_nil)
 ((ss_one (v_set 3 (v_mv 5 (by kernel_rfl)) (by kernel_rfl) (fun _ _ => rfl))))))) (fun _ _ => rfl))
 ((ss_one (st_ret (SE.so se_non)))))))))))))
theorem fk_delay {G : Gb} (h : Kn G) : FnK G 13 (He.ga G.K "delay") 1 C_delay m_delay := by
  obtain ⟨hp, X, N, c⟩ := h.ex
  obtain ⟨fd, F⟩ := c.def_ 20
  exact fnK_of (C := C_delay) (ps := ["book"]) F (scB_ok (by kernel_rfl)) rfl (ss_delay h) (fd_binds F fun _ _ _ _ _ _ us hl => match us, hl with | [_], _ => rfl)
theorem fkw_delay {G : Gb} (h : Kn G) : FnKw G 13 (He.ga G.K "delay") "book" C_delay m_delay := by
  obtain ⟨hp, X, N, c⟩ := h.ex
  obtain ⟨fd, F⟩ := c.def_ 20
  refine ⟨⟨fd, fnG_of (C := C_delay) (ps := ["book"]) F (scB_ok (by kernel_rfl)) rfl (ss_delay h), ?_⟩, F.kp⟩
  obtain ⟨oc, od, dV, kV, doc, pm, an, cdv, ct, osl, rfl, _, _, hd, _⟩ := F.ex
  rcases hd with ⟨_, rfl⟩ | ⟨h, _⟩
  · exact fun _ => rfl
  · exact (h rfl).elim
/-! ### _law_is_plain -/
abbrev C__law_is_plain : Ct := ⟨N__law_is_plain, defScope (topOf P 30), fun _ => true, 0, []⟩
theorem ss__law_is_plain {G : Gb} (h : Kn G) : SSs G C__law_is_plain (defBody (topOf P 30)) m__law_is_plain := by
  unfold m__law_is_plain
  exact (ss_cons (st_for (si_range1 (blt_ok (by kernel_rfl) (Kn.f_range h)) (sa_cons (SO.se (so_len (blt_ok (by kernel_rfl) (Kn.f_len h)) (v_op 0 (by kernel_rfl)) (fun _ _ => rfl))) sa_nil (fun _ _ => rfl)) (fun _ => rfl)) (v_tg 1 (by kernel_rfl))
 (ss_one (st_for (si_range1 (blt_ok (by kernel_rfl) (Kn.f_range h)) (sa_cons (SO.se (so_len (blt_ok (by kernel_rfl) (Kn.f_len h)) (v_op 0 (by kernel_rfl)) (fun _ _ => rfl))) sa_nil (fun _ _ => rfl)) (fun _ => rfl)) (v_tg 2 (by kernel_rfl))
 (ss_one (st_if (SW.sb (sw_and (sb_cmp (fun X ok => ok_neU X ok) (v_ne G.K) (two_v (v_op 2 (by kernel_rfl)) (v_op 1 (by kernel_rfl))) rfl) (sw_and1 (sb_cmp (fun X ok => ok_eqU X ok) (v_eq G.K) (two_v (SE.op (SO.se (so_sl (SE.op (SO.se (so_ix (two_v (v_op 0 (by kernel_rfl)) (v_op 1 (by kernel_rfl))) (fun _ _ => rfl)))) sp_no (sp_of (SO.se (so_len (blt_ok (by kernel_rfl) (Kn.f_len h)) (SE.op (SO.se (so_ix (two_v (v_op 0 (by kernel_rfl)) (v_op 2 (by kernel_rfl))) (fun _ _ => rfl)))) (fun _ _ => rfl))))))) (SE.op (SO.se (so_ix (two_v (v_op 0 (by kernel_rfl)) (v_op 2 (by kernel_rfl))) (fun _ _ => rfl))))) rfl))))
 (ss_one (st_ret (SE.so se_bl)))
 ss_nil)) (fun _ _ => rfl))) (fun _ _ => rfl))
 ((ss_one (st_ret (SE.so se_bl)))))
theorem fk__law_is_plain {G : Gb} (h : Kn G) : FnK G 1 (He.ga G.K "_law_is_plain") 1 C__law_is_plain m__law_is_plain := by
  obtain ⟨hp, X, N, c⟩ := h.ex
  obtain ⟨fd, F⟩ := c.def_ 21
  exact fnK_of (C := C__law_is_plain) (ps := ["row"]) F (scB_ok (by kernel_rfl)) rfl (ss__law_is_plain h) (fd_binds F fun _ _ _ _ _ _ us hl => match us, hl with | [_], _ => rfl)
/-! ### is_plain -/
abbrev C_is_plain : Ct := ⟨N_is_plain, defScope (topOf P 16), fun _ => true, 4, []⟩
theorem ss_is_plain {G : Gb} (h : Kn G) : SSs G C_is_plain (defBody (topOf P 16)) m_is_plain := by
  unfold m_is_plain
  exact (ss_cons (v_set 1 (so_prop (c := "Book") (fk_Book_words h) (by decide) (Kn.c_Book h) (Kn.p_Book_words h) (v_se 0 (by kernel_rfl)) (by decide) (fun _ => rfl)) (by kernel_rfl) (fun _ _ => rfl))
 ((ss_cons (st_for (si_enum (blt_ok (by kernel_rfl) (Kn.f_enumerate h)) (sa_cons (v_fz 1 (by kernel_rfl)) sa_nil (fun _ _ => rfl)) (fun _ => rfl)) (tg_tup (tgs_cons (v_tg 2 (by kernel_rfl)) (tgs_cons (v_tg 3 (by kernel_rfl)) tgs_nil (fun _ => rfl)) (fun _ => rfl)) (tgC_len (tgC_len tg0_len)) (fun _ => rfl) (fun _ => rfl))
 (ss_one (st_for (si_any (SO.se (so_op (fun X ok => ok_addU X ok) (v_add G.K) (two_v (SE.op (SO.se (so_sl (v_op 1 (by kernel_rfl)) sp_no (sp_of (v_se 2 (by kernel_rfl)))))) (SE.op (SO.se (so_sl (v_op 1 (by kernel_rfl)) (sp_of (SO.se (so_op (fun X ok => ok_addU X ok) (v_add G.K) (two_v (v_op 2 (by kernel_rfl)) (SE.op se_int))))) sp_no))))))) (v_tg 4 (by kernel_rfl))
 (ss_one (st_if (sb_tru (SE.op (SO.se (so_sw (v_se 3 (by kernel_rfl)) (v_op 4 (by kernel_rfl)) (fun _ => rfl) (fun _ => rfl) rfl))) (fun _ _ => rfl))
 (ss_one (st_ret (SE.so se_bl)))
 ss_nil)) (fun _ _ => rfl))) (fun _ _ => rfl))
 ((ss_one (st_ret (SE.so se_bl)))))))
theorem fk_is_plain {G : Gb} (h : Kn G) : FnK G 5 (He.ga G.K "is_plain") 1 C_is_plain m_is_plain := by
  obtain ⟨hp, X, N, c⟩ := h.ex
  obtain ⟨fd, F⟩ := c.def_ 22
  exact fnK_of (C := C_is_plain) (ps := ["book"]) F (scB_ok (by kernel_rfl)) rfl (ss_is_plain h) (fd_binds F fun _ _ _ _ _ _ us hl => match us, hl with | [_], _ => rfl)
theorem fkw_is_plain {G : Gb} (h : Kn G) : FnKw G 5 (He.ga G.K "is_plain") "book" C_is_plain m_is_plain := by
  obtain ⟨hp, X, N, c⟩ := h.ex
  obtain ⟨fd, F⟩ := c.def_ 22
  refine ⟨⟨fd, fnG_of (C := C_is_plain) (ps := ["book"]) F (scB_ok (by kernel_rfl)) rfl (ss_is_plain h), ?_⟩, F.kp⟩
  obtain ⟨oc, od, dV, kV, doc, pm, an, cdv, ct, osl, rfl, _, _, hd, _⟩ := F.ex
  rcases hd with ⟨_, rfl⟩ | ⟨h, _⟩
  · exact fun _ => rfl
  · exact (h rfl).elim
/-! ### Book_signs -/
abbrev C_Book_signs : Ct := ⟨N_Book_signs, defScope (inClass (topOf P 12) 1), fun _ => true, 0, []⟩
theorem ss_Book_signs {G : Gb} (h : Kn G) : SSs G C_Book_signs (defBody (inClass (topOf P 12) 1)) m_Book_signs := by
  unfold m_Book_signs
  exact (ss_one (st_ret (SE.so (se_fld (Kn.c_Book h) (Kn.n_Book__signs h) (v_se 0 (by kernel_rfl)) (fun _ => rfl)))))
theorem fk_Book_signs {G : Gb} (h : Kn G) : FnK G 1 (propG G.K "Book" "signs") 1 C_Book_signs m_Book_signs := by
  obtain ⟨hp, X, N, c⟩ := h.ex
  obtain ⟨fd, F⟩ := c.def_ 23
  exact fnK_of (C := C_Book_signs) (ps := ["self"]) F (scB_ok (by kernel_rfl)) rfl (ss_Book_signs h) (fd_binds F fun _ _ _ _ _ _ us hl => match us, hl with | [_], _ => rfl)
/-! ### Book_letters -/
abbrev C_Book_letters : Ct := ⟨N_Book_letters, defScope (inClass (topOf P 12) 3), fun _ => true, 0, []⟩
theorem ss_Book_letters {G : Gb} (h : Kn G) : SSs G C_Book_letters (defBody (inClass (topOf P 12) 3)) m_Book_letters := by
  unfold m_Book_letters
  exact (ss_one (st_ret (SE.so (se_fld (Kn.c_Book h) (Kn.n_Book__letters h) (v_se 0 (by kernel_rfl)) (fun _ => rfl)))))
theorem fk_Book_letters {G : Gb} (h : Kn G) : FnK G 1 (propG G.K "Book" "letters") 1 C_Book_letters m_Book_letters := by
  obtain ⟨hp, X, N, c⟩ := h.ex
  obtain ⟨fd, F⟩ := c.def_ 24
  exact fnK_of (C := C_Book_letters) (ps := ["self"]) F (scB_ok (by kernel_rfl)) rfl (ss_Book_letters h) (fd_binds F fun _ _ _ _ _ _ us hl => match us, hl with | [_], _ => rfl)
/-! ### Book___len__ -/
abbrev C_Book___len__ : Ct := ⟨N_Book___len__, defScope (inClass (topOf P 12) 7), fun _ => true, 0, []⟩
theorem ss_Book___len__ {G : Gb} (h : Kn G) : SSs G C_Book___len__ (defBody (inClass (topOf P 12) 7)) m_Book___len__ := by
  unfold m_Book___len__
  exact (ss_one (st_ret (so_len (blt_ok (by kernel_rfl) (Kn.f_len h)) (SE.op (se_fld (Kn.c_Book h) (Kn.n_Book__words h) (v_se 0 (by kernel_rfl)) (fun _ => rfl))) (fun _ _ => rfl))))
theorem fk_Book___len__ {G : Gb} (h : Kn G) : FnK G 1 (He.ma G.K (He.ga G.K "Book") "__len__") 1 C_Book___len__ m_Book___len__ := by
  obtain ⟨hp, X, N, c⟩ := h.ex
  obtain ⟨fd, F⟩ := c.def_ 25
  exact fnK_of (C := C_Book___len__) (ps := ["self"]) F (scB_ok (by kernel_rfl)) rfl (ss_Book___len__ h) (fd_binds F fun _ _ _ _ _ _ us hl => match us, hl with | [_], _ => rfl)
/-! ### Book_written -/
abbrev C_Book_written : Ct := ⟨N_Book_written, defScope (inClass (topOf P 12) 4), fun _ => true, 4, []⟩
theorem ss_Book_written {G : Gb} (h : Kn G) : SSs G C_Book_written (defBody (inClass (topOf P 12) 4)) m_Book_written := by
  unfold m_Book_written
  exact (ss_cons (st_expr (v_call (js := [none, none]) (fk_known h) (Kn.g_known h) (sx_val (v_se 1 (by kernel_rfl)) (sx_val (se_fld (Kn.c_Book h) (Kn.n_Book__signs h) (v_se 0 (by kernel_rfl)) (fun _ => rfl)) sx_nil (fun _ _ => rfl)) (fun _ _ => rfl)) (by kernel_rfl) (fun _ _ => rfl) (fun _ => rfl)) (fun _ => rfl))
 ((ss_one (st_ret (so_join (se_str [] (by kernel_rfl)) (SE.op (SO.se (so_lc (lcP (own := [("sign", 2)]) (si_any (v_se 1 (by kernel_rfl))) (v_tg 2 (by kernel_rfl)) sbs_nil (SO.se (so_ix (two_v (SE.op (se_fld (Kn.c_Book h) (Kn.n_Book__words h) (v_se 0 (by kernel_rfl)) (fun _ => rfl))) (SE.op (SO.se (so_sidx (se_fld (Kn.c_Book h) (Kn.n_Book__signs h) (v_se 0 (by kernel_rfl)) (fun _ => rfl)) (v_op 2 (by kernel_rfl)) (fun _ => rfl) (fun _ => rfl) rfl)))) (fun _ _ => rfl))) (by kernel_rfl)) (fun _ _ => rfl)))) (fun _ => rfl) (fun _ => rfl) rfl)))))
theorem fk_Book_written {G : Gb} (h : Kn G) : FnK G 5 (He.ma G.K (He.ga G.K "Book") "written") 2 C_Book_written m_Book_written := by
  obtain ⟨hp, X, N, c⟩ := h.ex
  obtain ⟨fd, F⟩ := c.def_ 26
  exact fnK_of (C := C_Book_written) (ps := ["self", "message"]) F (scB_ok (by kernel_rfl)) rfl (ss_Book_written h) (fd_binds F fun _ _ _ _ _ _ us hl => match us, hl with | [_, _], _ => rfl)
/-! ### Book___eq__ -/
abbrev C_Book___eq__ : Ct := ⟨N_Book___eq__, defScope (inClass (topOf P 12) 8), fun _ => true, 0, []⟩
theorem ss_Book___eq__ {G : Gb} (h : Kn G) : SSs G C_Book___eq__ (defBody (inClass (topOf P 12) 8)) m_Book___eq__ := by
  unfold m_Book___eq__
  exact (ss_one (st_ret (SE.so (se_and (se_isC (blt_ok (by kernel_rfl) (Kn.f_isinstance h)) (insB_ok (Kn.c_Book h) (Kn.i_Book h)) (Kn.g_Book h) (gloB_ok (by kernel_rfl)) (by kernel_rfl) (v_se 1 (by kernel_rfl)) (fun _ _ => rfl)) (se_and (se_cmp (fun X ok => ok_eqU X ok) (v_eq G.K) (two_v (SE.op (se_fld (Kn.c_Book h) (Kn.n_Book__signs h) (v_se 0 (by kernel_rfl)) (fun _ => rfl))) (SE.op (se_fld (Kn.c_Book h) (Kn.n_Book__signs h) (v_se 1 (by kernel_rfl)) (fun _ => rfl)))) rfl) (se_and (se_cmp (fun X ok => ok_eqU X ok) (v_eq G.K) (two_v (SE.op (se_fld (Kn.c_Book h) (Kn.n_Book__words h) (v_se 0 (by kernel_rfl)) (fun _ => rfl))) (SE.op (se_fld (Kn.c_Book h) (Kn.n_Book__words h) (v_se 1 (by kernel_rfl)) (fun _ => rfl)))) rfl) (se_one (se_cmp (fun X ok => ok_eqU X ok) (v_eq G.K) (two_v (SE.op (se_fld (Kn.c_Book h) (Kn.n_Book__letters h) (v_se 0 (by kernel_rfl)) (fun _ => rfl))) (SE.op (se_fld (Kn.c_Book h) (Kn.n_Book__letters h) (v_se 1 (by kernel_rfl)) (fun _ => rfl)))) rfl))))))))
theorem fk_Book___eq__ {G : Gb} (h : Kn G) : FnK G 1 (He.ma G.K (He.ga G.K "Book") "__eq__") 2 C_Book___eq__ m_Book___eq__ := by
  obtain ⟨hp, X, N, c⟩ := h.ex
  obtain ⟨fd, F⟩ := c.def_ 27
  exact fnK_of (C := C_Book___eq__) (ps := ["self", "other"]) F (scB_ok (by kernel_rfl)) rfl (ss_Book___eq__ h) (fd_binds F fun _ _ _ _ _ _ us hl => match us, hl with | [_, _], _ => rfl)
/-! ### _law_stays -/
abbrev C__law_stays : Ct := ⟨N__law_stays, defScope (topOf P 33), fun _ => true, 8, []⟩
theorem ss__law_stays {G : Gb} (h : Kn G) : SSs G C__law_stays (defBody (topOf P 33)) m__law_stays := by
  unfold m__law_stays
  exact (ss_cons (st_if (sb_cmp (fun X ok => ok_neU X ok) (v_ne G.K) (two_v (SE.op (SO.se (so_repr (blt_ok (by kernel_rfl) (Kn.f_repr h)) (SE.op (SO.se (so_lst (sa_cons (SO.se (so_prop (c := "Book") (fk_Book_signs h) (by decide) (Kn.c_Book h) (Kn.p_Book_signs h) (v_se 0 (by kernel_rfl)) (by decide) (fun _ => rfl))) (sa_cons (SO.se (so_prop (c := "Book") (fk_Book_words h) (by decide) (Kn.c_Book h) (Kn.p_Book_words h) (v_se 0 (by kernel_rfl)) (by decide) (fun _ => rfl))) (sa_cons (SO.se (so_prop (c := "Book") (fk_Book_letters h) (by decide) (Kn.c_Book h) (Kn.p_Book_letters h) (v_se 0 (by kernel_rfl)) (by decide) (fun _ => rfl))) (sa_cons (se_lenOwn (fk_Book___len__ h) (by decide) (Kn.m_Book___len__ h).at_ (Kn.m_Book___len__ h).fn (gloB_ok (by kernel_rfl)) (Kn.f_len h) (v_se 0 (by kernel_rfl)) (by decide) (fun _ _ => rfl)) sa_nil (fun _ _ => rfl)) (fun _ _ => rfl)) (fun _ _ => rfl)) (fun _ _ => rfl))))) (fun _ _ => rfl)))) (SE.op (SO.se (so_repr (blt_ok (by kernel_rfl) (Kn.f_repr h)) (SE.op (SO.se (so_lst (sa_cons (v_se 1 (by kernel_rfl)) (sa_cons (v_se 2 (by kernel_rfl)) (sa_cons (v_se 3 (by kernel_rfl)) (sa_cons (SO.se (so_len (blt_ok (by kernel_rfl) (Kn.f_len h)) (v_op 2 (by kernel_rfl)) (fun _ _ => rfl))) sa_nil (fun _ _ => rfl)) (fun _ _ => rfl)) (fun _ _ => rfl)) (fun _ _ => rfl))))) (fun _ _ => rfl))))) rfl)
 (ss_one (st_ret (SE.so se_bl)))
 ss_nil)
 ((ss_cons (v_set 4 (SE.so (SO.se (v_make (c := "Book") (fk_Book___init__ h) (Kn.k_Book h) (Kn.g_Book h) (sa_cons (v_se 1 (by kernel_rfl)) (sa_cons (SO.se (so_list (blt_ok (by kernel_rfl) (Kn.f_list h)) (v_op 2 (by kernel_rfl)) (fun _ _ => rfl))) (sa_cons (v_se 3 (by kernel_rfl)) sa_nil (fun _ _ => rfl)) (fun _ _ => rfl)) (fun _ _ => rfl)) (len_cons2 (len_cons2 (len_cons2 len_nil2))) (by kernel_rfl) (fun _ _ => rfl) (fun _ => rfl)))) (by kernel_rfl) (fun _ _ => rfl))
 ((ss_one (st_ret (SE.so (se_and (se_cmp (fun X ok => ok_eqU X ok) (v_eq G.K) (two_v (SE.op (SO.se (so_lc (lcP (own := [("sign", 5)]) (si_any (v_se 1 (by kernel_rfl))) (v_tg 5 (by kernel_rfl)) sbs_nil (SO.se (v_meth (c := "Book") (js := [none]) (fk_Book_written h) (Kn.c_Book h) (Kn.m_Book_written h) (v_se 0 (by kernel_rfl)) (sx_val (v_se 5 (by kernel_rfl)) sx_nil (fun _ _ => rfl)) (by kernel_rfl) (fun _ _ => rfl) (fun _ => rfl) (fun _ => ⟨_, rfl⟩))) (by kernel_rfl)) (fun _ _ => rfl)))) (v_op 2 (by kernel_rfl))) rfl) (se_and (se_cmp (fun X ok => ok_isU) (v_is G.K) (two_v (SE.op (se_eqOwn (fk_Book___eq__ h) (by decide) (Kn.m_Book___eq__ h).at_ (Kn.m_Book___eq__ h).fn (two_v (v_op 0 (by kernel_rfl)) (v_op 4 (by kernel_rfl))) (by decide) rfl)) (SE.op se_bl)) rfl) (se_one (se_cmp (fun X ok => ok_isU) (v_is G.K) (two_v (SE.op (se_eqOwn (fk_Book___eq__ h) (by decide) (Kn.m_Book___eq__ h).at_ (Kn.m_Book___eq__ h).fn (two_v (v_op 4 (by kernel_rfl)) (v_op 0 (by kernel_rfl))) (by decide) rfl)) (SE.op se_bl)) rfl)))))))))))
theorem fk__law_stays {G : Gb} (h : Kn G) : FnK G 9 (He.ga G.K "_law_stays") 4 C__law_stays m__law_stays := by
  obtain ⟨hp, X, N, c⟩ := h.ex
  obtain ⟨fd, F⟩ := c.def_ 28
  exact fnK_of (C := C__law_stays) (ps := ["code", "key", "row", "abc"]) F (scB_ok (by kernel_rfl)) rfl (ss__law_stays h) (fd_binds F fun _ _ _ _ _ _ us hl => match us, hl with | [_, _, _, _], _ => rfl)
/-! ### _law_asked -/
abbrev C__law_asked : Ct := ⟨N__law_asked, defScope (topOf P 34), fun _ => true, 16, [0]⟩
theorem ss__law_asked {G : Gb} (h : Kn G) : SSs G C__law_asked (defBody (topOf P 34)) m__law_asked := by
  unfold m__law_asked
  exact (ss_cons (v_par3 (sq_cons (v_call (js := [some 0, none]) (fk__law_alphabet h) (Kn.g__law_alphabet h) (v_lent 0 (by kernel_rfl) (sx_val (SO.se (so_len (blt_ok (by kernel_rfl) (Kn.f_len h)) (v_op 1 (by kernel_rfl)) (fun _ _ => rfl))) sx_nil (fun _ _ => rfl))) (by kernel_rfl) (fun _ _ => rfl) (fun _ => rfl)) (sq_cons (v_call (js := [none]) (fk__law_is_plain h) (Kn.g__law_is_plain h) (sx_val (v_se 1 (by kernel_rfl)) sx_nil (fun _ _ => rfl)) (by kernel_rfl) (fun _ _ => rfl) (fun _ => rfl)) (sq_cons (SE.so (se_cmp (fun X ok => ok_eqU X ok) (v_eq G.K) (two_v (SE.op (SO.se (v_call (js := [some 0, none]) (fk__law_sip h) (Kn.g__law_sip h) (v_lent 0 (by kernel_rfl) (sx_val se_int sx_nil (fun _ _ => rfl))) (by kernel_rfl) (fun _ _ => rfl) (fun _ => rfl)))) (SE.op se_int)) rfl)) sq_nil (fun _ _ => rfl)) (fun _ _ => rfl)) (fun _ _ => rfl)) (by kernel_rfl) (fun env h => by cases env; cases h; rfl) (fun _ => rfl))
 ((ss_cons (v_set 6 (SE.so (SO.se (v_make (c := "Book") (fk_Book___init__ h) (Kn.k_Book h) (Kn.g_Book h) (sa_cons (v_se 3 (by kernel_rfl)) (sa_cons (SO.se (so_list (blt_ok (by kernel_rfl) (Kn.f_list h)) (v_op 1 (by kernel_rfl)) (fun _ _ => rfl))) (sa_cons (v_se 2 (by kernel_rfl)) sa_nil (fun _ _ => rfl)) (fun _ _ => rfl)) (fun _ _ => rfl)) (len_cons2 (len_cons2 (len_cons2 len_nil2))) (by kernel_rfl) (fun _ _ => rfl) (fun _ => rfl)))) (by kernel_rfl) (fun _ _ => rfl))
 ((ss_cons (st_if (SW.sb (sw_and (sb_tru (v_op 5 (by kernel_rfl)) (fun _ _ => rfl)) (sw_and1 (sb_cmp (fun X ok => ok_neU X ok) (v_ne G.K) (two_v (SE.op (SO.se (so_repr (blt_ok (by kernel_rfl) (Kn.f_repr h)) (SE.op (SO.se (so_callkw (fkw_is_plain h) (by decide) (Kn.g_is_plain h) (gloB_ok (by kernel_rfl)) (v_se 6 (by kernel_rfl)) (by decide) (by kernel_rfl)))) (fun _ _ => rfl)))) (SE.op (SO.se (so_repr (blt_ok (by kernel_rfl) (Kn.f_repr h)) (v_op 4 (by kernel_rfl)) (fun _ _ => rfl))))) rfl))))
 (ss_one (st_ret (SE.so se_bl)))
 ss_nil)
 ((ss_cons (st_if (sb_cmp (fun X ok => ok_ltU) (v_lt G.K) (two_v (SE.op (SO.se (so_len (blt_ok (by kernel_rfl) (Kn.f_len h)) (v_op 1 (by kernel_rfl)) (fun _ _ => rfl)))) (SE.op se_int)) rfl)
 (ss_cons (v_set 7 (so_if (sb_cmp (fun X ok => ok_eqU X ok) (v_eq G.K) (two_v (SE.op (SO.se (v_call (js := [some 0, none]) (fk__law_sip h) (Kn.g__law_sip h) (v_lent 0 (by kernel_rfl) (sx_val se_int sx_nil (fun _ _ => rfl))) (by kernel_rfl) (fun _ _ => rfl) (fun _ => rfl)))) (SE.op se_int)) rfl) (v_call (js := [none]) (fk_delay h) (Kn.g_delay h) (sx_val (v_se 6 (by kernel_rfl)) sx_nil (fun _ _ => rfl)) (by kernel_rfl) (fun _ _ => rfl) (fun _ => rfl)) (so_callkw (fkw_delay h) (by decide) (Kn.g_delay h) (gloB_ok (by kernel_rfl)) (v_se 6 (by kernel_rfl)) (by decide) (by kernel_rfl))) (by kernel_rfl) (fun _ _ => rfl))
 ((ss_one (st_if (SW.sb (sw_or (sb_cmp (fun X ok => ok_neU X ok) (v_ne G.K) (two_s (SO.se (so_repr (blt_ok (by kernel_rfl) (Kn.f_repr h)) (v_op 7 (by kernel_rfl)) (fun _ _ => rfl))) (SE.op (SO.se (so_repr (blt_ok (by kernel_rfl) (Kn.f_repr h)) (SE.op (SO.se (v_call (js := [none]) (fk__law_delay h) (Kn.g__law_delay h) (sx_val (v_se 1 (by kernel_rfl)) sx_nil (fun _ _ => rfl)) (by kernel_rfl) (fun _ _ => rfl) (fun _ => rfl)))) (fun _ _ => rfl))))) rfl) (sw_or1 (sb_cmp (fun X ok => ok_neU X ok) (v_ne G.K) (two_v (SE.op (se_cmp (fun X ok => ok_eqU X ok) (v_eq G.K) (two_v (SE.op (SO.se (so_repr (blt_ok (by kernel_rfl) (Kn.f_repr h)) (v_op 7 (by kernel_rfl)) (fun _ _ => rfl)))) (SE.op (se_str [48] (by kernel_rfl)))) rfl)) (v_op 4 (by kernel_rfl))) rfl))))
 (ss_one (st_ret (SE.so se_bl)))
 ss_nil))))
 ss_nil)
 ((ss_one (st_ret (SE.so (se_and (se_cmp (fun X ok => ok_eqU X ok) (v_eq G.K) (two_v (SE.op (SO.se (so_repr (blt_ok (by kernel_rfl) (Kn.f_repr h)) (SE.op (SO.se (v_call (js := [none]) (fk_is_plain h) (Kn.g_is_plain h) (sx_val (v_se 6 (by kernel_rfl)) sx_nil (fun _ _ => rfl)) (by kernel_rfl) (fun _ _ => rfl) (fun _ => rfl)))) (fun _ _ => rfl)))) (SE.op (SO.se (so_repr (blt_ok (by kernel_rfl) (Kn.f_repr h)) (v_op 4 (by kernel_rfl)) (fun _ _ => rfl))))) rfl) (se_one (SO.se (v_call (js := [none, none, none, none]) (fk__law_stays h) (Kn.g__law_stays h) (sx_val (v_se 6 (by kernel_rfl)) (sx_val (v_se 3 (by kernel_rfl)) (sx_val (v_se 1 (by kernel_rfl)) (sx_val (v_se 2 (by kernel_rfl)) sx_nil (fun _ _ => rfl)) (fun _ _ => rfl)) (fun _ _ => rfl)) (fun _ _ => rfl)) (by kernel_rfl) (fun _ _ => rfl) (fun _ => rfl))))))))))))))))
theorem fk__law_asked {G : Gb} (h : Kn G) : FnK G 17 (He.ga G.K "_law_asked") 3 C__law_asked m__law_asked := by
  obtain ⟨hp, X, N, c⟩ := h.ex
  obtain ⟨fd, F⟩ := c.def_ 29
  exact fnK_of (C := C__law_asked) (ps := ["well", "row", "abc"]) F (scB_ok (by kernel_rfl)) rfl (ss__law_asked h) (fd_binds F fun _ _ _ _ _ _ us hl => match us, hl with | [_, _, _], _ => rfl)
/-! ### _law_more -/
abbrev C__law_more : Ct := ⟨N__law_more, defScope (topOf P 35), fun _ => true, 8, [0]⟩
theorem ss__law_more {G : Gb} (h : Kn G) : SSs G C__law_more (defBody (topOf P 35)) m__law_more := by
  unfold m__law_more
  exact (ss_cons (v_set 3 (v_call (js := [some 0, none]) (fk__law_pick h) (Kn.g__law_pick h) (v_lent 0 (by kernel_rfl) (sx_val (v_se 1 (by kernel_rfl)) sx_nil (fun _ _ => rfl))) (by kernel_rfl) (fun _ _ => rfl) (fun _ => rfl)) (by kernel_rfl) (fun _ _ => rfl))
 ((ss_cons (v_set 4 (so_lst (sa_cons (v_se 3 (by kernel_rfl)) (sa_cons (SO.se (so_sl (v_op 3 (by kernel_rfl)) sp_no (sp_of se_int))) (sa_cons (SO.se (so_sl (SE.op (SO.se (so_op (fun X ok => ok_addU X ok) (v_add G.K) (two_s (v_se 3 (by kernel_rfl)) (SE.op (SO.se (v_call (js := [some 0, none]) (fk__law_pick h) (Kn.g__law_pick h) (v_lent 0 (by kernel_rfl) (sx_val (v_se 2 (by kernel_rfl)) sx_nil (fun _ _ => rfl))) (by kernel_rfl) (fun _ _ => rfl) (fun _ => rfl)))))))) sp_no (sp_of se_int))) (sa_cons (SO.se (so_sl (v_op 3 (by kernel_rfl)) sp_no (sp_of (SO.se (so_max2 (blt_ok (by kernel_rfl) (Kn.f_max h)) (sa_cons se_int (sa_cons (SO.se (so_op (fun X ok => op_sub) (v_sub G.K) (two_v (SE.op (SO.se (so_len (blt_ok (by kernel_rfl) (Kn.f_len h)) (v_op 3 (by kernel_rfl)) (fun _ _ => rfl)))) (SE.op se_int)))) sa_nil (fun _ _ => rfl)) (fun _ _ => rfl)) (fun _ _ => rfl) (fun _ => rfl)))))) sa_nil (fun _ _ => rfl)) (fun _ _ => rfl)) (fun _ _ => rfl)) (fun _ _ => rfl))) (by kernel_rfl) (fun _ _ => rfl))
 ((ss_cons (v_set 5 (v_call (js := [some 0, none]) (fk__law_sip h) (Kn.g__law_sip h) (v_lent 0 (by kernel_rfl) (sx_val (SO.se (so_op (fun X ok => ok_addU X ok) (v_add G.K) (two_v (SE.op (SO.se (so_len (blt_ok (by kernel_rfl) (Kn.f_len h)) (v_op 1 (by kernel_rfl)) (fun _ _ => rfl)))) (SE.op se_int)))) sx_nil (fun _ _ => rfl))) (by kernel_rfl) (fun _ _ => rfl) (fun _ => rfl)) (by kernel_rfl) (fun _ _ => rfl))
 ((ss_one (st_ret (so_op (fun X ok => ok_addU X ok) (v_add G.K) (two_v (SE.op (SO.se (so_op (fun X ok => ok_addU X ok) (v_add G.K) (two_s (SO.se (so_sl (v_op 1 (by kernel_rfl)) sp_no (sp_of (v_se 5 (by kernel_rfl))))) (SE.op (SO.se (so_lst (sa_cons (SO.se (v_call (js := [some 0, none]) (fk__law_pick h) (Kn.g__law_pick h) (v_lent 0 (by kernel_rfl) (sx_val (v_fz 4 (by kernel_rfl)) sx_nil (fun _ _ => rfl))) (by kernel_rfl) (fun _ _ => rfl) (fun _ => rfl))) sa_nil (fun _ _ => rfl))))))))) (SE.op (SO.se (so_sl (v_op 1 (by kernel_rfl)) (sp_of (v_se 5 (by kernel_rfl))) sp_no)))))))))))))
theorem fk__law_more {G : Gb} (h : Kn G) : FnK G 9 (He.ga G.K "_law_more") 3 C__law_more m__law_more := by
  obtain ⟨hp, X, N, c⟩ := h.ex
  obtain ⟨fd, F⟩ := c.def_ 30
  exact fnK_of (C := C__law_more) (ps := ["well", "row", "abc"]) F (scB_ok (by kernel_rfl)) rfl (ss__law_more h) (fd_binds F fun _ _ _ _ _ _ us hl => match us, hl with | [_, _, _], _ => rfl)
/-! ### law -/
abbrev C_law : Ct := ⟨N_law, defScope (topOf P 36), fun _ => true, 20, []⟩
theorem ss_law {G : Gb} (h : Kn G) : SSs G C_law (defBody (topOf P 36)) m_law := by
  unfold m_law
  exact (ss_cons (v_set 1 (v_call (js := [none]) (fk__law_well h) (Kn.g__law_well h) (sx_val (v_se 0 (by kernel_rfl)) sx_nil (fun _ _ => rfl)) (by kernel_rfl) (fun _ _ => rfl) (fun _ => rfl)) (by kernel_rfl) (fun _ _ => rfl))
 ((ss_cons (st_for (si_range1 (blt_ok (by kernel_rfl) (Kn.f_range h)) (sa_cons (SO.se (so_op (fun X ok => ok_addU X ok) (v_add G.K) (two_v (SE.op se_int) (SE.op (SO.se (so_min2 (blt_ok (by kernel_rfl) (Kn.f_min h)) (sa_cons se_int (sa_cons (SO.se (so_op (fun X ok => ok_divU X ok) (v_div G.K) (two_v (SE.op (SO.se (so_len (blt_ok (by kernel_rfl) (Kn.f_len h)) (v_op 0 (by kernel_rfl)) (fun _ _ => rfl)))) (SE.op se_int)))) sa_nil (fun _ _ => rfl)) (fun _ _ => rfl)) (fun _ _ => rfl) (fun _ => rfl))))))) sa_nil (fun _ _ => rfl)) (fun _ => rfl)) (v_tg 2 (by kernel_rfl))
 (ss_cons (v_set 3 (v_call (js := [some 1, none]) (fk__law_alphabet h) (Kn.g__law_alphabet h) (v_lent 1 (by kernel_rfl) (sx_val (SO.se (so_op (fun X ok => ok_addU X ok) (v_add G.K) (two_s se_int (SE.op (SO.se (v_call (js := [some 1, none]) (fk__law_sip h) (Kn.g__law_sip h) (v_lent 1 (by kernel_rfl) (sx_val se_int sx_nil (fun _ _ => rfl))) (by kernel_rfl) (fun _ _ => rfl) (fun _ => rfl))))))) sx_nil (fun _ _ => rfl))) (by kernel_rfl) (fun _ _ => rfl) (fun _ => rfl)) (by kernel_rfl) (fun _ _ => rfl))
 ((ss_cons (v_set 4 (v_call (js := [some 1, none, none, none]) (fk__law_words h) (Kn.g__law_words h) (v_lent 1 (by kernel_rfl) (sx_val (v_se 3 (by kernel_rfl)) (sx_val se_int (sx_val (SO.se (so_ix (two_s (SO.se (so_lst (sa_cons se_int (sa_cons se_int (sa_cons se_int sa_nil (fun _ _ => rfl)) (fun _ _ => rfl)) (fun _ _ => rfl)))) (SE.op (SO.se (v_call (js := [some 1, none]) (fk__law_sip h) (Kn.g__law_sip h) (v_lent 1 (by kernel_rfl) (sx_val se_int sx_nil (fun _ _ => rfl))) (by kernel_rfl) (fun _ _ => rfl) (fun _ => rfl))))) (fun _ _ => rfl))) sx_nil (fun _ _ => rfl)) (fun _ _ => rfl)) (fun _ _ => rfl))) (by kernel_rfl) (fun _ _ => rfl) (fun _ => rfl)) (by kernel_rfl) (fun _ _ => rfl))
 ((ss_cons (st_if (SW.sb (sw_and (sb_cmp (fun X ok => ok_gtU) (v_gt G.K) (two_v (SE.op (SO.se (so_len (blt_ok (by kernel_rfl) (Kn.f_len h)) (v_op 3 (by kernel_rfl)) (fun _ _ => rfl)))) (SE.op se_int)) rfl) (sw_and1 (sb_cmp (fun X ok => ok_eqU X ok) (v_eq G.K) (two_v (SE.op (SO.se (v_call (js := [some 1, none]) (fk__law_sip h) (Kn.g__law_sip h) (v_lent 1 (by kernel_rfl) (sx_val se_int sx_nil (fun _ _ => rfl))) (by kernel_rfl) (fun _ _ => rfl) (fun _ => rfl)))) (SE.op se_int)) rfl))))
 (ss_one (v_set 4 (v_call (js := [some 1, none]) (fk__law_late_words h) (Kn.g__law_late_words h) (v_lent 1 (by kernel_rfl) (sx_val (v_se 3 (by kernel_rfl)) sx_nil (fun _ _ => rfl))) (by kernel_rfl) (fun _ _ => rfl) (fun _ => rfl)) (by kernel_rfl) (fun _ _ => rfl)))
 ss_nil)
 ((ss_cons (v_par2 (sq_cons (SE.so (SO.se (v_make (c := "Book") (fk_Book___init__ h) (Kn.k_Book h) (Kn.g_Book h) (sa_cons (SO.se (v_call (js := [some 1, none]) (fk__law_alphabet h) (Kn.g__law_alphabet h) (v_lent 1 (by kernel_rfl) (sx_val (SO.se (so_len (blt_ok (by kernel_rfl) (Kn.f_len h)) (v_op 4 (by kernel_rfl)) (fun _ _ => rfl))) sx_nil (fun _ _ => rfl))) (by kernel_rfl) (fun _ _ => rfl) (fun _ => rfl))) (sa_cons (SO.se (so_list (blt_ok (by kernel_rfl) (Kn.f_list h)) (v_op 4 (by kernel_rfl)) (fun _ _ => rfl))) (sa_cons (v_se 3 (by kernel_rfl)) sa_nil (fun _ _ => rfl)) (fun _ _ => rfl)) (fun _ _ => rfl)) (len_cons2 (len_cons2 (len_cons2 len_nil2))) (by kernel_rfl) (fun _ _ => rfl) (fun _ => rfl)))) (sq_cons (v_call (js := [none]) (fk__law_delay h) (Kn.g__law_delay h) (sx_val (v_fz 4 (by kernel_rfl)) sx_nil (fun _ _ => rfl)) (by kernel_rfl) (fun _ _ => rfl) (fun _ => rfl)) sq_nil (fun _ _ => rfl)) (fun _ _ => rfl)) (by kernel_rfl) (fun env h => by cases env; cases h; rfl) (fun _ => rfl))
 ((ss_cons (st_if (sb_cmp (fun X ok => ok_neU X ok) (v_ne G.K) (two_v (SE.op (SO.se (so_repr (blt_ok (by kernel_rfl) (Kn.f_repr h)) (SE.op (SO.se (v_call (js := [none]) (fk_delay h) (Kn.g_delay h) (sx_val (v_se 5 (by kernel_rfl)) sx_nil (fun _ _ => rfl)) (by kernel_rfl) (fun _ _ => rfl) (fun _ => rfl)))) (fun _ _ => rfl)))) (SE.op (SO.se (so_repr (blt_ok (by kernel_rfl) (Kn.f_repr h)) (v_op 6 (by kernel_rfl)) (fun _ _ => rfl))))) rfl)
 (ss_one (st_ret (SE.so se_bl)))
 ss_nil)
 ((ss_cons (v_par2 (sq_cons (v_call (js := [some 1, none]) (fk__law_sip h) (Kn.g__law_sip h) (v_lent 1 (by kernel_rfl) (sx_val (SO.se (so_op (fun X ok => ok_addU X ok) (v_add G.K) (two_v (SE.op (SO.se (so_len (blt_ok (by kernel_rfl) (Kn.f_len h)) (v_op 4 (by kernel_rfl)) (fun _ _ => rfl)))) (SE.op se_int)))) sx_nil (fun _ _ => rfl))) (by kernel_rfl) (fun _ _ => rfl) (fun _ => rfl)) (sq_cons (v_call (js := [some 1, none]) (fk__law_mixed h) (Kn.g__law_mixed h) (v_lent 1 (by kernel_rfl) (sx_val (v_fz 4 (by kernel_rfl)) sx_nil (fun _ _ => rfl))) (by kernel_rfl) (fun _ _ => rfl) (fun _ => rfl)) sq_nil (fun _ _ => rfl)) (fun _ _ => rfl)) (by kernel_rfl) (fun env h => by cases env; cases h; rfl) (fun _ => rfl))
 ((ss_cons (st_if (sb_cmp (fun X ok => ok_ltU) (v_lt G.K) (two_v (SE.op (SO.se (so_len (blt_ok (by kernel_rfl) (Kn.f_len h)) (v_op 4 (by kernel_rfl)) (fun _ _ => rfl)))) (SE.op se_int)) rfl)
 (ss_one (st_expr (so_insert (b := false) (v_pl 8 (by kernel_rfl)) (sa_cons (v_se 7 (by kernel_rfl)) (sa_cons (SO.se (v_call (js := [some 1, none, none, none]) (fk__law_word h) (Kn.g__law_word h) (v_lent 1 (by kernel_rfl) (sx_val (v_se 3 (by kernel_rfl)) (sx_val se_int (sx_val se_int sx_nil (fun _ _ => rfl)) (fun _ _ => rfl)) (fun _ _ => rfl))) (by kernel_rfl) (fun _ _ => rfl) (fun _ => rfl))) sa_nil (fun _ _ => rfl)) (fun _ _ => rfl)) (.inr rfl) (fun _ => rfl) (fun _ _ => rfl) rfl (fun _ => rfl) (fun _ => rfl)) (fun _ => rfl)))
 ss_nil)
 ((ss_cons (st_if (SW.sb (sw_or (sb_not (sb_tru (SE.op (SO.se (v_call (js := [some 1, none, none]) (fk__law_asked h) (Kn.g__law_asked h) (v_lent 1 (by kernel_rfl) (sx_val (v_fz 8 (by kernel_rfl)) (sx_val (v_se 3 (by kernel_rfl)) sx_nil (fun _ _ => rfl)) (fun _ _ => rfl))) (by kernel_rfl) (fun _ _ => rfl) (fun _ => rfl)))) (fun _ _ => rfl))) (sw_or1 (sb_cmp (fun X ok => ok_neU X ok) (v_ne G.K) (two_v (SE.op (SO.se (so_repr (blt_ok (by kernel_rfl) (Kn.f_repr h)) (SE.op (SO.se (v_call (js := [none]) (fk_delay h) (Kn.g_delay h) (sx_val (v_se 5 (by kernel_rfl)) sx_nil (fun _ _ => rfl)) (by kernel_rfl) (fun _ _ => rfl) (fun _ => rfl)))) (fun _ _ => rfl)))) (SE.op (SO.se (so_repr (blt_ok (by kernel_rfl) (Kn.f_repr h)) (v_op 6 (by kernel_rfl)) (fun _ _ => rfl))))) rfl))))
 (ss_one (st_ret (SE.so se_bl)))
 ss_nil)
 ((ss_cons (v_set 9 (v_call (js := [some 1, none, none]) (fk__law_more h) (Kn.g__law_more h) (v_lent 1 (by kernel_rfl) (sx_val (v_fz 4 (by kernel_rfl)) (sx_val (v_se 3 (by kernel_rfl)) sx_nil (fun _ _ => rfl)) (fun _ _ => rfl))) (by kernel_rfl) (fun _ _ => rfl) (fun _ => rfl)) (by kernel_rfl) (fun _ _ => rfl))
 ((ss_cons (st_if (SW.sb (sw_or (sb_tru (SE.op (SO.se (v_call (js := [none]) (fk__law_is_plain h) (Kn.g__law_is_plain h) (sx_val (v_fz 9 (by kernel_rfl)) sx_nil (fun _ _ => rfl)) (by kernel_rfl) (fun _ _ => rfl) (fun _ => rfl)))) (fun _ _ => rfl)) (sw_or1 (sb_not (sb_tru (SE.op (SO.se (v_call (js := [some 1, none, none]) (fk__law_asked h) (Kn.g__law_asked h) (v_lent 1 (by kernel_rfl) (sx_val (v_fz 9 (by kernel_rfl)) (sx_val (v_se 3 (by kernel_rfl)) sx_nil (fun _ _ => rfl)) (fun _ _ => rfl))) (by kernel_rfl) (fun _ _ => rfl) (fun _ => rfl)))) (fun _ _ => rfl))))))
 (ss_one (st_ret (SE.so se_bl)))
 ss_nil)
 ((ss_one (st_if (SW.sb (sw_or (sb_not (sb_tru (SE.op (SO.se (v_call (js := [some 1, none, none]) (fk__law_asked h) (Kn.g__law_asked h) (v_lent 1 (by kernel_rfl) (sx_val (SO.se (v_call (js := [some 1, none, none, none]) (fk__law_words h) (Kn.g__law_words h) (v_lent 1 (by kernel_rfl) (sx_val (v_se 3 (by kernel_rfl)) (sx_val se_int (sx_val se_int sx_nil (fun _ _ => rfl)) (fun _ _ => rfl)) (fun _ _ => rfl))) (by kernel_rfl) (fun _ _ => rfl) (fun _ => rfl))) (sx_val (v_se 3 (by kernel_rfl)) sx_nil (fun _ _ => rfl)) (fun _ _ => rfl))) (by kernel_rfl) (fun _ _ => rfl) (fun _ => rfl)))) (fun _ _ => rfl))) (sw_or1 (sb_not (sb_tru (SE.op (SO.se (v_call (js := [some 1, none, none]) (fk__law_asked h) (Kn.g__law_asked h) (v_lent 1 (by kernel_rfl) (sx_val (v_fz 4 (by kernel_rfl)) (sx_val (v_se 3 (by kernel_rfl)) sx_nil (fun _ _ => rfl)) (fun _ _ => rfl))) (by kernel_rfl) (fun _ _ => rfl) (fun _ => rfl)))) (fun _ _ => rfl))))))
 (ss_one (st_ret (SE.so se_bl)))
 ss_nil)))))))))))))))))))))) (fun _ _ => rfl))
 ((ss_one (st_ret (SE.so se_bl)))))))
theorem fk_law {G : Gb} (h : Kn G) : FnK G 21 (He.ga G.K "law") 1 C_law m_law := by
  obtain ⟨hp, X, N, c⟩ := h.ex
  obtain ⟨fd, F⟩ := c.def_ 31
  exact fnK_of (C := C_law) (ps := ["script"]) F (scB_ok (by kernel_rfl)) rfl (ss_law h) (fd_binds F fun _ _ _ _ _ _ us hl => match us, hl with | [_], _ => rfl)
end
end PM
set_option Elab.async false
set_option linter.all false
set_option maxRecDepth 100000
set_option maxHeartbeats 4000000
set_option autoImplicit false
namespace PM
open PySem PySem.Spec PyProof.Rows L2
/-! ### repr and == of plain values are defined -/
/-- plain values: depth at most k, shown within c -/
inductive Sh : Nat → Nat → D → Prop
  | non : Sh 0 4 .non
  | bl (b : Bool) : Sh 0 5 (.bl b)
  | int {i : Int} (h : i.natAbs < 2 ^ 1000) : Sh 0 1001 (.int i)
  | str {s : Txt} (h : ∀ c ∈ s, c < 1000) : Sh 0 (10 * s.length + 2) (.str s)
  | lst {k c : Nat} {xs : List D} (h : ∀ d ∈ xs, Sh k c d) : Sh (k + 1) ((c + 2) * xs.length + 4) (.lst xs)
  | tup {k c : Nat} {xs : List D} (h : ∀ d ∈ xs, Sh k c d) : Sh (k + 1) ((c + 2) * xs.length + 4) (.tup xs)
  | mono {k c k' c' : Nat} {d : D} (h : Sh k c d) (hk : k ≤ k') (hc : c ≤ c') : Sh k' c' d
structure PyOk (k c : Nat) (p : PyData) : Prop where
  show_ : p.showable = true
  dict : p.hasDict = false
  deep : p.depth ≤ k
  len : p.shown.length ≤ c
  lay : p.canLay0 = true
theorem pys_of {k c : Nat} : ∀ {xs : List D}, (∀ d ∈ xs, ∃ p, d.py = some p ∧ PyOk k c p) → ∃ ps, D.pys xs = some ps ∧ ps.length = xs.length ∧ ∀ p ∈ ps, PyOk k c p
  | [], _ => ⟨[], rfl, rfl, fun p hp => by cases hp⟩
  | x :: xs, h => by
    obtain ⟨p, e, o⟩ := h x List.mem_cons_self
    obtain ⟨ps, e2, l, o2⟩ := pys_of fun d hd => h d (List.mem_cons_of_mem _ hd)
    refine ⟨p :: ps, by simp [D.pys, e, e2], by simp [l], fun q hq => ?_⟩
    rcases List.mem_cons.mp hq with rfl | hq
    · exact o
    · exact o2 q hq
theorem all_of {k c : Nat} : ∀ {ps : List PyData}, (∀ p ∈ ps, PyOk k c p) → PyData.showableAll ps = true ∧ PyData.hasDictAll ps = false ∧ PyData.depthAll ps ≤ k ∧ PyData.canLayAll0 ps = true ∧ (∀ t ∈ PyData.shownAll ps, t.length ≤ c) ∧ (PyData.shownAll ps).length = ps.length
  | [], _ => by simp [PyData.showableAll, PyData.hasDictAll, PyData.depthAll, PyData.canLayAll0, PyData.shownAll]
  | p :: ps, h => by
    obtain ⟨h1, h2, h3, h4, h5, h6⟩ := all_of (ps := ps) fun d hd => h d (List.mem_cons_of_mem _ hd)
    have o := h p List.mem_cons_self
    refine ⟨by simp [PyData.showableAll, h1, o.show_], by simp [PyData.hasDictAll, h2, o.dict], by simp only [PyData.depthAll]; exact Nat.max_le.mpr ⟨o.deep, h3⟩, by simp [PyData.canLayAll0, h4, o.lay], ?_, by simp [PyData.shownAll, h6]⟩
    intro t ht
    simp only [PyData.shownAll] at ht
    rcases List.mem_cons.mp ht with rfl | ht
    · exact o.len
    · exact h5 t ht
theorem textFrom_le {c : Nat} : ∀ (ts : List Str) (k : Nat) (acc : Str), (∀ t ∈ ts, t.length ≤ c) → (textFrom k acc ts).length ≤ acc.length + (c + 2) * ts.length
  | [], k, acc, _ => by simp [textFrom]
  | t :: ts, k, acc, h => by
    have ih := textFrom_le ts (k + 1) (acc ++ (if k > 0 then ", " else "" : String) ++ t) fun x hx => h x (List.mem_cons_of_mem _ hx)
    have ht := h t List.mem_cons_self
    have e : (acc ++ (if k > 0 then ", " else "" : String) ++ t).length ≤ acc.length + 2 + t.length := by
      rw [strLen_append, strLen_append]
      split
      · exact Nat.le_refl _
      · show acc.length + 0 + t.length ≤ _
        omega
    show (textFrom (k + 1) _ ts).length ≤ _
    rw [List.length_cons, Nat.mul_add]
    omega
theorem piled_le {c : Nat} : ∀ (ts : List Str), (∀ t ∈ ts, t.length ≤ c) → piled ts ≤ (c + 2) * ts.length
  | [], _ => Nat.zero_le _
  | t :: ts, h => by
    have ih := piled_le ts fun x hx => h x (List.mem_cons_of_mem _ hx)
    have ht := h t List.mem_cons_self
    rw [List.length_cons, Nat.mul_add]
    show t.length + 2 + piled ts ≤ _
    omega
theorem Sh.py {k c : Nat} {d : D} (h : Sh k c d) : ∃ p, d.py = some p ∧ PyOk k c p := by
  induction h with
  | non => exact ⟨_, rfl, by decide, by decide, by decide, by decide, by decide⟩
  | bl b => cases b <;> exact ⟨_, rfl, by decide, by decide, by decide, by decide, by decide⟩
  | @int i h =>
    have hl := log_lt h (by decide)
    refine ⟨_, rfl, ?_, rfl, Nat.le_refl _, ?_, rfl⟩
    · simp [PyData.showable]; omega
    · have := int_text_length_le (by decide) hl
      simp only [PyData.shown]
      have e : (Str.ofString (toString i)).length = _ := PySem.ofString_length _
      exact Nat.le_trans (Nat.le_of_eq e) this
  | @str s h =>
    refine ⟨_, rfl, rfl, rfl, Nat.le_refl _, ?_, ?_⟩
    · have := StrLaws.reprText_len (tx s) fun c hc => Nat.lt_trans (h c (by simpa [tx] using hc)) (by decide)
      rw [tx_len] at this
      exact this
    · simp [PyData.canLay0, PyData.strOk, tx]
      intro c hc
      have := h c hc
      omega
  | @lst k c xs h ih =>
    obtain ⟨ps, e, l, o⟩ := pys_of ih
    obtain ⟨h1, h2, h3, h4, h5, h6⟩ := all_of o
    refine ⟨.list ps, by simp [D.py, e], by simpa [PyData.showable] using h1, by simpa [PyData.hasDict] using h2, by simpa [PyData.depth] using h3, ?_, by simpa [PyData.canLay0] using h4⟩
    have := textFrom_le (PyData.shownAll ps) 0 "[" h5
    rw [h6, l] at this
    simp only [PyData.shown, listText]
    rw [strLen_append]
    have e1 : Str.length "[" = 1 := rfl
    have e2 : Str.length "]" = 1 := rfl
    omega
  | @tup k c xs h ih =>
    obtain ⟨ps, e, l, o⟩ := pys_of ih
    obtain ⟨h1, h2, h3, h4, h5, h6⟩ := all_of o
    refine ⟨.tuple ps, by simp [D.py, e], by simpa [PyData.showable] using h1, by simpa [PyData.hasDict] using h2, by simpa [PyData.depth] using h3, ?_, by simpa [PyData.canLay0] using h4⟩
    have hp := piled_le (PyData.shownAll ps) h5
    rw [h6, l] at hp
    have hj : (Str.join ", " (PyData.shownAll ps)).length ≤ piled (PyData.shownAll ps) := by
      by_cases hn : PyData.shownAll ps = []
      · rw [hn]; exact Nat.le_refl _
      · have := join_length_add _ hn
        omega
    simp only [PyData.shown, tupleText]
    rw [strLen_append, strLen_append]
    have e1 : Str.length "(" = 1 := rfl
    have e2 : Str.length (if (PyData.shownAll ps).length == 1 then ",)" else ")" : String) ≤ 2 := by
      split <;> decide
    omega
  | mono h hk hc ih =>
    obtain ⟨p, e, o⟩ := ih
    exact ⟨p, e, o.show_, o.dict, Nat.le_trans o.deep hk, Nat.le_trans o.len hc, o.lay⟩
theorem Sh.repr {k c : Nat} {d : D} (h : Sh k c d) (hk : k ≤ 60) (hc : c ≤ 16777216) : ∃ s, dRepr d = some (.sh (.str s)) := by
  obtain ⟨p, e, o⟩ := h.py
  refine ⟨p.shown.cps.toList, ?_⟩
  unfold dRepr
  rw [e]
  show (if _ then _ else _) = _
  rw [if_pos ⟨o.show_, o.dict, Nat.le_trans o.deep hk, Nat.le_trans o.len hc⟩]
/-! ### == -/
theorem py_ne_bool {d : D} : True := trivial
mutual
/-- values without bools: == is equality -/
def D.exact : D → Bool
  | .non => true
  | .int _ => true
  | .str _ => true
  | .tup xs => D.exacts xs
  | .lst xs => D.exacts xs
  | _ => false
def D.exacts : List D → Bool
  | [] => true
  | x :: xs => x.exact && D.exacts xs
end
mutual
theorem eqv_exact : ∀ (x y : D) (p q : PyData), x.exact = true → y.exact = true → x.py = some p → y.py = some q → (PyData.eqv p q = true ↔ x = y)
  | .non, y, p, q, hx, hy, ex, ey => by
    cases ex
    cases y <;> simp [D.exact] at hy <;> simp [D.py] at ey
    all_goals first | (subst ey; simp [PyData.eqv]; done) | (obtain ⟨a, _, rfl⟩ := ey; simp [PyData.eqv])
  | .int i, y, p, q, hx, hy, ex, ey => by
    cases ex
    cases y <;> simp [D.exact] at hy <;> simp [D.py] at ey
    all_goals first | (subst ey; simp [PyData.eqv]; done) | (obtain ⟨a, _, rfl⟩ := ey; simp [PyData.eqv])
  | .str s, y, p, q, hx, hy, ex, ey => by
    cases ex
    cases y <;> simp [D.exact] at hy <;> simp [D.py] at ey
    all_goals first | (subst ey; simp [PyData.eqv, tx_inj]; done) | (obtain ⟨a, _, rfl⟩ := ey; simp [PyData.eqv])
  | .tup xs, y, p, q, hx, hy, ex, ey => by
    simp [D.py] at ex
    obtain ⟨ps, e1, rfl⟩ := ex
    cases y <;> simp [D.exact] at hy <;> simp [D.py] at ey
    case tup ys =>
      obtain ⟨qs, e2, rfl⟩ := ey
      simp only [PyData.eqv, D.tup.injEq]
      exact eqvs_exact xs ys ps qs (by simpa [D.exact] using hx) hy e1 e2
    all_goals first | (subst ey; simp [PyData.eqv]; done) | (obtain ⟨a, _, rfl⟩ := ey; simp [PyData.eqv])
  | .lst xs, y, p, q, hx, hy, ex, ey => by
    simp [D.py] at ex
    obtain ⟨ps, e1, rfl⟩ := ex
    cases y <;> simp [D.exact] at hy <;> simp [D.py] at ey
    case lst ys =>
      obtain ⟨qs, e2, rfl⟩ := ey
      simp only [PyData.eqv, D.lst.injEq]
      exact eqvs_exact xs ys ps qs (by simpa [D.exact] using hx) hy e1 e2
    all_goals first | (subst ey; simp [PyData.eqv]; done) | (obtain ⟨a, _, rfl⟩ := ey; simp [PyData.eqv])
  | .bl _, _, _, _, hx, _, _, _ => by simp [D.exact] at hx
  | .frz _, _, _, _, hx, _, _, _ => by simp [D.exact] at hx
  | .ins _ _, _, _, _, hx, _, _, _ => by simp [D.exact] at hx
  | .dK _, _, _, _, hx, _, _, _ => by simp [D.exact] at hx
  | .dT _, _, _, _, hx, _, _, _ => by simp [D.exact] at hx
theorem eqvs_exact : ∀ (xs ys : List D) (ps qs : List PyData), D.exacts xs = true → D.exacts ys = true → D.pys xs = some ps → D.pys ys = some qs → (PyData.eqvAll ps qs = true ↔ xs = ys)
  | [], [], ps, qs, _, _, e1, e2 => by
    cases e1; cases e2; simp [PyData.eqvAll]
  | [], y :: ys, ps, qs, _, _, e1, e2 => by
    cases e1
    simp only [D.pys] at e2
    split at e2
    · cases e2; simp [PyData.eqvAll]
    · cases e2
  | x :: xs, [], ps, qs, _, _, e1, e2 => by
    cases e2
    simp only [D.pys] at e1
    split at e1
    · cases e1; simp [PyData.eqvAll]
    · cases e1
  | x :: xs, y :: ys, ps, qs, h1, h2, e1, e2 => by
    simp only [D.pys] at e1 e2
    split at e1
    · rename_i p ps' f1 f2
      split at e2
      · rename_i q qs' g1 g2
        cases e1; cases e2
        simp only [D.exacts, Bool.and_eq_true] at h1 h2
        simp only [PyData.eqvAll, Bool.and_eq_true, List.cons.injEq, eqv_exact x y p q h1.1 h2.1 f1 g1, eqvs_exact xs ys ps' qs' h1.2 h2.2 f2 g2]
      · cases e2
    · cases e1
end
theorem dEq_seq {x y : D} {k c k' c' : Nat} (hx : Sh k c x) (hy : Sh k' c' y) (hk : k ≤ 60) (hk' : k' ≤ 60) (ex : x.exact = true) (ey : y.exact = true) (hs : ∀ s z, x = .str s → y = .str z → False) (hi : ∀ s z, x = .int s → y = .int z → False) :
    ∃ b, dEq x y = some b ∧ (b = true ↔ x = y) := by
  obtain ⟨p, e1, o1⟩ := hx.py
  obtain ⟨q, e2, o2⟩ := hy.py
  have s1 : SeqAt.shaped p = true := by
    unfold SeqAt.shaped
    rw [o1.lay]
    have := o1.deep
    simp; omega
  have s2 : SeqAt.shaped q = true := by
    unfold SeqAt.shaped
    rw [o2.lay]
    have := o2.deep
    simp; omega
  refine ⟨PyData.eqv p q, ?_, eqv_exact x y p q ex ey e1 e2⟩
  unfold dEq
  split
  · exact (hi _ _ rfl rfl).elim
  · exact (hs _ _ rfl rfl).elim
  · cases ex
  · rw [e1, e2]
    simp [s1, s2]
end PM
set_option Elab.async false
set_option linter.all false
set_option autoImplicit false
namespace PM
/-! ### codes: the closure of rests, unique reading, the sum of shares -/
inductive Dg (ws : List (List Nat)) : List Nat → Prop
  | first {i j : Nat} {u v t : List Nat} : i ≠ j → ws[i]? = some u → ws[j]? = some v → u = v ++ t → Dg ws t
  | left {s w t : List Nat} : Dg ws s → s ≠ [] → w ∈ ws → s = w ++ t → Dg ws t
  | right {s w t : List Nat} : Dg ws s → s ≠ [] → w ∈ ws → w = s ++ t → Dg ws t
theorem Dg.suf {ws : List (List Nat)} {t : List Nat} (h : Dg ws t) : ∃ w ∈ ws, t <:+ w := by
  induction h with
  | first _ h1 _ e => exact ⟨_, List.mem_of_getElem? h1, ⟨_, e.symm⟩⟩
  | left _ _ _ e ih =>
    obtain ⟨w, hw, hs⟩ := ih
    exact ⟨w, hw, List.IsSuffix.trans ⟨_, e.symm⟩ hs⟩
  | right _ _ hw e _ => exact ⟨_, hw, ⟨_, e.symm⟩⟩
theorem Dg.run {ws : List (List Nat)} : ∀ (n : Nat) (s : List Nat) (us vs : List (List Nat)), us.length + vs.length ≤ n → Dg ws s → s ≠ [] → (∀ x ∈ us, x ∈ ws) → (∀ x ∈ vs, x ∈ ws) → s ++ us.flatten = vs.flatten → Dg ws []
  | n, s, us, [], _, _, h0, _, _, e => by
    simp at e
    exact absurd e.1 h0
  | 0, s, us, v :: vs, hn, _, _, _, _, _ => by simp at hn
  | n + 1, s, us, v :: vs, hn, hd, h0, hu, hv, e => by
    rw [List.flatten_cons] at e
    have hvw : v ∈ ws := hv v List.mem_cons_self
    have hvs : ∀ x ∈ vs, x ∈ ws := fun x hx => hv x (List.mem_cons_of_mem _ hx)
    rcases List.append_eq_append_iff.mp e with ⟨t, e1, e2⟩ | ⟨t, e1, e2⟩
    · have hd2 : Dg ws t := .right hd h0 hvw e1
      by_cases ht : t = []
      · rw [ht] at hd2; exact hd2
      · exact Dg.run n t vs us (by simp at hn; omega) hd2 ht hvs hu e2.symm
    · have hd2 : Dg ws t := .left hd h0 hvw e1
      by_cases ht : t = []
      · rw [ht] at hd2; exact hd2
      · exact Dg.run n t us vs (by simp at hn; omega) hd2 ht hu hvs e2.symm
theorem Dg.uniq {ws : List (List Nat)} (hw : ∀ w ∈ ws, w ≠ []) (hd : ¬ Dg ws []) : ∀ us vs : List (List Nat), (∀ x ∈ us, x ∈ ws) → (∀ x ∈ vs, x ∈ ws) → us.flatten = vs.flatten → us = vs
  | [], [], _, _, _ => rfl
  | [], v :: vs, _, hv, e => by
    simp at e
    exact absurd e.1 (hw v (hv v List.mem_cons_self))
  | u :: us, [], hu, _, e => by
    simp at e
    exact absurd e.1 (hw u (hu u List.mem_cons_self))
  | u :: us, v :: vs, hu, hv, e => by
    have hus : ∀ x ∈ us, x ∈ ws := fun x hx => hu x (List.mem_cons_of_mem _ hx)
    have hvs : ∀ x ∈ vs, x ∈ ws := fun x hx => hv x (List.mem_cons_of_mem _ hx)
    by_cases h : u = v
    · subst h
      rw [List.flatten_cons, List.flatten_cons] at e
      rw [Dg.uniq hw hd us vs hus hvs (List.append_cancel_left e)]
    · exfalso
      obtain ⟨i, hi⟩ := List.getElem?_of_mem (hu u List.mem_cons_self)
      obtain ⟨j, hj⟩ := List.getElem?_of_mem (hv v List.mem_cons_self)
      have hij : i ≠ j := fun h2 => h (by rw [h2, hj] at hi; exact (Option.some.inj hi).symm)
      rw [List.flatten_cons, List.flatten_cons] at e
      rcases List.append_eq_append_iff.mp e with ⟨t, e1, e2⟩ | ⟨t, e1, e2⟩
      · have hd2 : Dg ws t := .first (Ne.symm hij) hj hi e1
        by_cases ht : t = []
        · rw [ht] at hd2; exact hd hd2
        · exact hd (Dg.run _ t vs us (Nat.le_refl _) hd2 ht hvs hus e2.symm)
      · have hd2 : Dg ws t := .first hij hi hj e1
        by_cases ht : t = []
        · rw [ht] at hd2; exact hd hd2
        · exact hd (Dg.run _ t us vs (Nat.le_refl _) hd2 ht hus hvs e2.symm)
theorem nodup_at : ∀ l : List (List Nat), (∀ (i j : Nat) (u : List Nat), i ≠ j → l[i]? = some u → l[j]? = some u → False) → l.Nodup
  | [], _ => List.nodup_nil
  | a :: l, h => by
    refine List.nodup_cons.mpr ⟨fun hm => ?_, nodup_at l fun i j u hij hi hj => h (i + 1) (j + 1) u (by omega) (by simpa using hi) (by simpa using hj)⟩
    obtain ⟨i, hi⟩ := List.getElem?_of_mem hm
    exact h 0 (i + 1) a (by omega) rfl (by simpa using hi)
theorem Dg.nodup {ws : List (List Nat)} (hd : ¬ Dg ws []) : ws.Nodup :=
  nodup_at ws fun i j u hij hi hj => hd (.first hij hi hj (List.append_nil _).symm)
/-- all lists of k words -/
def seqs (ws : List (List Nat)) : Nat → List (List (List Nat))
  | 0 => [[]]
  | k + 1 => ws.flatMap fun w => (seqs ws k).map (w :: ·)
theorem seqs_mem {ws : List (List Nat)} : ∀ (k : Nat) (us : List (List Nat)), us ∈ seqs ws k → us.length = k ∧ ∀ x ∈ us, x ∈ ws
  | 0, us, h => by
    simp [seqs] at h
    subst h
    exact ⟨rfl, fun x hx => by cases hx⟩
  | k + 1, us, h => by
    simp only [seqs, List.mem_flatMap, List.mem_map] at h
    obtain ⟨w, hw, vs, hv, rfl⟩ := h
    obtain ⟨h1, h2⟩ := seqs_mem k vs hv
    refine ⟨by simp [h1], fun x hx => ?_⟩
    rcases List.mem_cons.mp hx with rfl | hx
    · exact hw
    · exact h2 x hx
theorem seqs_nodup {ws : List (List Nat)} (hn : ws.Nodup) : ∀ k : Nat, (seqs ws k).Nodup
  | 0 => by simp [seqs]
  | k + 1 => by
    have ih := seqs_nodup hn k
    simp only [seqs]
    rw [List.Nodup, List.pairwise_flatMap]
    refine ⟨fun w _ => ?_, ?_⟩
    · rw [List.pairwise_map]
      exact List.Pairwise.imp (fun h e => h (List.cons.inj e).2) ih
    · refine List.Pairwise.imp ?_ hn
      intro a b hab x hx y hy e
      obtain ⟨_, _, rfl⟩ := List.mem_map.mp hx
      obtain ⟨_, _, rfl⟩ := List.mem_map.mp hy
      exact hab (List.cons.inj e).1
/-- the sum of shares, times r ^ K -/
def wt (r K : Nat) (X : List (List Nat)) : Nat := (X.map fun x => r ^ (K - x.length)).sum
theorem wt_nil (r K : Nat) : wt r K [] = 0 := rfl
theorem wt_cons (r K : Nat) (x : List Nat) (X : List (List Nat)) : wt r K (x :: X) = r ^ (K - x.length) + wt r K X := by simp [wt]
theorem wt_append (r K : Nat) (X Y : List (List Nat)) : wt r K (X ++ Y) = wt r K X + wt r K Y := by simp [wt]
theorem wt_seqs {r L : Nat} {ws : List (List Nat)} (hl : ∀ w ∈ ws, w.length ≤ L) : ∀ k : Nat, wt r (k * L) ((seqs ws k).map List.flatten) = wt r L ws ^ k
  | 0 => by simp [seqs, wt]
  | k + 1 => by
    have ih := wt_seqs (r := r) hl k
    have hb : ∀ vs ∈ seqs ws k, vs.flatten.length ≤ k * L := by
      intro vs hv
      obtain ⟨h1, h2⟩ := seqs_mem k vs hv
      have : ∀ l : List (List Nat), (∀ x ∈ l, x ∈ ws) → l.flatten.length ≤ l.length * L := by
        intro l
        induction l with
        | nil => intro _; simp
        | cons a l il =>
          intro h
          have := il fun x hx => h x (List.mem_cons_of_mem _ hx)
          have := hl a (h a List.mem_cons_self)
          rw [List.flatten_cons, List.length_append, List.length_cons, Nat.add_mul]
          omega
      rw [← h1]; exact this vs h2
    have key : ∀ l : List (List Nat), (∀ w ∈ l, w ∈ ws) → wt r ((k + 1) * L) ((l.flatMap fun w => (seqs ws k).map (w :: ·)).map List.flatten) = wt r L l * wt r L ws ^ k := by
      intro l
      induction l with
      | nil => intro _; simp [wt]
      | cons w l il =>
        intro h
        have hw := hl w (h w List.mem_cons_self)
        rw [List.flatMap_cons, List.map_append, wt_append, il fun x hx => h x (List.mem_cons_of_mem _ hx), wt_cons, Nat.add_mul (r ^ (L - w.length))]
        congr 1
        rw [← ih]
        clear ih il
        revert hb
        generalize seqs ws k = S
        intro hb
        induction S with
        | nil => simp [wt]
        | cons v S iS =>
          have h2 := hb v List.mem_cons_self
          rw [List.map_cons, List.map_cons, wt_cons, List.map_cons, wt_cons, iS fun x hx => hb x (List.mem_cons_of_mem _ hx), Nat.mul_add]
          congr 1
          rw [List.flatten_cons, List.length_append, ← Nat.pow_add]
          congr 1
          rw [Nat.add_mul]
          omega
    simp only [seqs]
    rw [key ws fun w hw => hw, Nat.pow_succ, Nat.mul_comm]
theorem wt_le {r : Nat} {abc : List Nat} (hr : abc.length = r) : ∀ (K : Nat) (X : List (List Nat)), X.Nodup → (∀ x ∈ X, x.length ≤ K) → (∀ x ∈ X, ∀ c ∈ x, c ∈ abc) → wt r K X ≤ (K + 1) * r ^ K := by
  intro K
  induction K with
  | zero =>
    intro X hn hl _
    have : X.length ≤ 1 := by
      match X, hn, hl with
      | [], _, _ => simp
      | [_], _, _ => simp
      | a :: b :: X, hn, hl =>
        have ha : a = [] := List.length_eq_zero_iff.mp (Nat.le_zero.mp (hl a (by simp)))
        have hb : b = [] := List.length_eq_zero_iff.mp (Nat.le_zero.mp (hl b (by simp)))
        subst ha; subst hb
        simp at hn
    match X, this with
    | [], _ => simp [wt]
    | [x], _ => simp [wt]
  | succ K ih =>
    intro X hn hl hc
    -- tails by a first letter
    let tl : Nat → List (List Nat) := fun a => X.filterMap fun x => match x with | [] => none | b :: t => if b = a then some t else none
    have h1 : ∀ a, wt r K (tl a) ≤ (K + 1) * r ^ K := by
      intro a
      refine ih _ ?_ ?_ ?_
      · refine List.Pairwise.filterMap _ ?_ hn
        intro x y hxy t ht u hu e
        cases x with
        | nil => simp at ht
        | cons b x =>
          cases y with
          | nil => simp at hu
          | cons c y =>
            simp at ht hu
            apply hxy
            rw [ht.1, hu.1, ht.2, hu.2, e]
      · intro t ht
        obtain ⟨x, hx, e⟩ := List.mem_filterMap.mp ht
        cases x with
        | nil => simp at e
        | cons b x =>
          simp at e
          have := hl _ hx
          rw [← e.2]
          simp at this
          omega
      · intro t ht c hct
        obtain ⟨x, hx, e⟩ := List.mem_filterMap.mp ht
        cases x with
        | nil => simp at e
        | cons b x =>
          simp at e
          refine hc _ hx c (List.mem_cons_of_mem _ ?_)
          rw [e.2]; exact hct
    have bump : ∀ (l : List Nat) (f g : Nat → Nat) (b c : Nat), b ∈ l → (∀ a, f a ≤ g a) → f b + c ≤ g b → (l.map f).sum + c ≤ (l.map g).sum := by
      intro l f g b c hb hfg hbc
      have mono : ∀ l : List Nat, (l.map f).sum ≤ (l.map g).sum := by
        intro l
        induction l with
        | nil => simp
        | cons a l il => have := hfg a; simp; omega
      induction l with
      | nil => cases hb
      | cons a l il =>
        rcases List.mem_cons.mp hb with rfl | hb
        · have := mono l; simp; omega
        · have := il hb
          have := hfg a
          simp; omega
    have h2 : ∀ Y : List (List Nat), (∀ x ∈ Y, ∀ c ∈ x, c ∈ abc) → wt r (K + 1) Y ≤ (Y.filter (· = [])).length * r ^ (K + 1) + (abc.map fun a => wt r K (Y.filterMap fun x => match x with | [] => none | b :: t => if b = a then some t else none)).sum := by
      intro Y
      induction Y with
      | nil => intro _; simp [wt]
      | cons y Y iY =>
        intro h
        have iY := iY fun x hx => h x (List.mem_cons_of_mem _ hx)
        rw [wt_cons]
        cases y with
        | nil =>
          simp only [List.filterMap_cons_none, List.filter_cons_of_pos (p := fun x : List Nat => decide (x = [])) (a := []) (l := Y) (by simp), List.length_cons, Nat.add_mul]
          simp only [List.length_nil, Nat.sub_zero]
          omega
        | cons b t =>
          have hb : b ∈ abc := h _ List.mem_cons_self b List.mem_cons_self
          have e1 : ((b :: t) :: Y).filter (fun x => decide (x = [])) = Y.filter (fun x => decide (x = [])) := by simp
          rw [e1]
          have := bump abc (fun a => wt r K (Y.filterMap fun x => match x with | [] => none | b :: t => if b = a then some t else none)) (fun a => wt r K (((b :: t) :: Y).filterMap fun x => match x with | [] => none | b :: t => if b = a then some t else none)) b (r ^ (K - t.length)) hb (by
            intro a
            simp only [List.filterMap_cons]
            by_cases hba : b = a
            · simp only [if_pos hba, wt_cons]; omega
            · simp only [if_neg hba]; omega) (by
            simp only [List.filterMap_cons, if_true, wt_cons]; omega)
          have e2 : K + 1 - (b :: t).length = K - t.length := by simp
          rw [e2]
          omega
    have h3 : (X.filter (· = [])).length ≤ 1 := by
      have hnf : (X.filter (· = [])).Nodup := hn.filter _
      match e : X.filter (· = []), hnf with
      | [], _ => simp
      | [_], _ => simp
      | a :: b :: l, hnf =>
        have ha : a ∈ X.filter (· = []) := by rw [e]; simp
        have hb : b ∈ X.filter (· = []) := by rw [e]; simp
        simp at ha hb
        rw [ha.2, hb.2] at hnf
        simp at hnf
    have h4 : (abc.map fun a => wt r K (tl a)).sum ≤ r * ((K + 1) * r ^ K) := by
      rw [← hr]
      have : ∀ l : List Nat, (l.map fun a => wt r K (tl a)).sum ≤ l.length * ((K + 1) * r ^ K) := by
        intro l
        induction l with
        | nil => simp
        | cons a l il =>
          have := h1 a
          rw [List.map_cons, List.sum_cons, List.length_cons, Nat.add_mul]
          omega
      have := this abc
      rw [hr] at this ⊢
      exact this
    have h5 := h2 X hc
    have h6 : (X.filter (· = [])).length * r ^ (K + 1) ≤ r ^ (K + 1) := by
      have := Nat.mul_le_mul_right (r ^ (K + 1)) h3
      omega
    have h7 : r * ((K + 1) * r ^ K) = (K + 1) * r ^ (K + 1) := by
      rw [Nat.pow_succ]
      simp only [Nat.mul_comm, Nat.mul_left_comm, Nat.mul_assoc]
    have h8 : (K + 1 + 1) * r ^ (K + 1) = (K + 1) * r ^ (K + 1) + r ^ (K + 1) := by rw [Nat.add_mul (K + 1) 1]; omega
    show wt r (K + 1) X ≤ _
    rw [h8]
    have h9 : wt r (K + 1) X ≤ (X.filter (· = [])).length * r ^ (K + 1) + (abc.map fun a => wt r K (tl a)).sum := h5
    omega
theorem bern (Z : Nat) : ∀ j : Nat, (Z + j) * Z ^ j ≤ Z * (Z + 1) ^ j
  | 0 => by simp
  | j + 1 => by
    have ih := bern Z j
    have h1 := Nat.mul_le_mul_right (Z + 1) ih
    have h2 : Z * (Z + 1) ^ j * (Z + 1) = Z * (Z + 1) ^ (j + 1) := by rw [Nat.pow_succ, Nat.mul_assoc]
    rw [h2] at h1
    refine Nat.le_trans ?_ h1
    have h3 : (Z + j) * Z ^ j * (Z + 1) = ((Z + j) * (Z + 1)) * Z ^ j := by
      rw [Nat.mul_assoc, Nat.mul_comm (Z ^ j), ← Nat.mul_assoc]
    have h4 : (Z + (j + 1)) * Z ^ (j + 1) = ((Z + (j + 1)) * Z) * Z ^ j := by
      rw [Nat.pow_succ, Nat.mul_comm (Z ^ j) Z, ← Nat.mul_assoc]
    rw [h3, h4]
    refine Nat.mul_le_mul_right _ ?_
    rw [Nat.add_mul, Nat.mul_add (Z + j), Nat.add_mul Z j Z, Nat.add_mul j 1 Z]
    omega
theorem small_of_pow {N Z L : Nat} (hZ : 0 < Z) (h : ∀ k : Nat, N ^ k ≤ (k * L + 1) * Z ^ k) : N ≤ Z := by
  refine Nat.le_of_not_lt fun hlt => ?_
  obtain ⟨j, hj⟩ : ∃ j, j = 2 * L * (Z * Z) + 1 := ⟨_, rfl⟩
  have h1 := h (2 * j)
  have h2 : (Z + 1) ^ (2 * j) ≤ N ^ (2 * j) := Nat.pow_le_pow_left hlt _
  have h3 := bern Z j
  have h4 := Nat.mul_le_mul h3 h3
  have e1 : Z * (Z + 1) ^ j * (Z * (Z + 1) ^ j) = Z * Z * (Z + 1) ^ (2 * j) := by
    rw [show 2 * j = j + j by omega, Nat.pow_add]
    simp only [Nat.mul_comm, Nat.mul_left_comm, Nat.mul_assoc]
  have e2 : (Z + j) * Z ^ j * ((Z + j) * Z ^ j) = (Z + j) * (Z + j) * Z ^ (2 * j) := by
    rw [show 2 * j = j + j by omega, Nat.pow_add]
    simp only [Nat.mul_comm, Nat.mul_left_comm, Nat.mul_assoc]
  rw [e1, e2] at h4
  have h5 : (Z + j) * (Z + j) * Z ^ (2 * j) ≤ (Z * Z * (2 * j * L + 1)) * Z ^ (2 * j) := by
    refine Nat.le_trans h4 ?_
    rw [Nat.mul_assoc (Z * Z)]
    exact Nat.mul_le_mul_left _ (Nat.le_trans h2 h1)
  have h6 := Nat.le_of_mul_le_mul_right h5 (Nat.pow_pos hZ)
  have e3 : (Z + j) * (Z + j) = Z * Z + 2 * (Z * j) + j * j := by
    rw [Nat.add_mul, Nat.mul_add, Nat.mul_add, Nat.mul_comm j Z]; omega
  have e4 : Z * Z * (2 * j * L + 1) = j * (2 * L * (Z * Z)) + Z * Z := by
    rw [Nat.mul_add, Nat.mul_one]
    congr 1
    simp only [Nat.mul_comm, Nat.mul_left_comm, Nat.mul_assoc]
  rw [e3, e4] at h6
  have h7 : j * (2 * L * (Z * Z)) ≤ j * j := Nat.mul_le_mul_left j (by omega)
  have h8 : 0 < Z * j := Nat.mul_pos hZ (by omega)
  omega
/-- Kraft and McMillan -/
theorem kraft {r L : Nat} {abc : List Nat} {ws : List (List Nat)} (hr : abc.length = r) (hr0 : 0 < r) (hl : ∀ w ∈ ws, w.length ≤ L) (hw : ∀ w ∈ ws, w ≠ []) (hc : ∀ w ∈ ws, ∀ c ∈ w, c ∈ abc) (hd : ¬ Dg ws []) : wt r L ws ≤ r ^ L := by
  refine small_of_pow (L := L) (Nat.pow_pos hr0) fun k => ?_
  rw [← wt_seqs hl k, ← Nat.pow_mul, Nat.mul_comm L k]
  have hsm := seqs_mem (ws := ws) k
  refine wt_le hr _ _ ?_ ?_ ?_
  · rw [List.Nodup, List.pairwise_map]
    have hn : (seqs ws k).Pairwise (fun a b => a ≠ b ∧ a ∈ seqs ws k ∧ b ∈ seqs ws k) := by
      have := seqs_nodup (Dg.nodup hd) k
      refine List.Pairwise.imp_of_mem ?_ this
      intro a b ha hb hab
      exact ⟨hab, ha, hb⟩
    refine hn.imp ?_
    rintro a b ⟨hab, ha, hb⟩ e
    exact hab (Dg.uniq hw hd a b (hsm a ha).2 (hsm b hb).2 e)
  · intro x hx
    obtain ⟨us, hu, rfl⟩ := List.mem_map.mp hx
    obtain ⟨h1, h2⟩ := hsm us hu
    have : ∀ l : List (List Nat), (∀ x ∈ l, x ∈ ws) → l.flatten.length ≤ l.length * L := by
      intro l
      induction l with
      | nil => intro _; simp
      | cons a l il =>
        intro h
        have := il fun x hx => h x (List.mem_cons_of_mem _ hx)
        have := hl a (h a List.mem_cons_self)
        rw [List.flatten_cons, List.length_append, List.length_cons, Nat.add_mul]
        omega
    rw [← h1]; exact this us h2
  · intro x hx c hcx
    obtain ⟨us, hu, rfl⟩ := List.mem_map.mp hx
    obtain ⟨w, hw2, hcw⟩ := List.mem_flatten.mp hcx
    exact hc w ((hsm us hu).2 w hw2) c hcw
end PM
set_option Elab.async false
set_option linter.all false
set_option autoImplicit false
namespace PM
/-! ### fractions -/
structure Fr (n d p q : Nat) : Prop where
  pos : 0 < q
  cop : Nat.gcd p q = 1
  eq : p * d = n * q
theorem Fr.zero (d : Nat) : Fr 0 d 0 1 := ⟨by decide, by decide, by simp⟩
theorem Fr.red {n d a b : Nat} (hb : 0 < b) (h : a * d = n * b) : Fr n d (a / Nat.gcd a b) (b / Nat.gcd a b) := by
  have hg : 0 < Nat.gcd a b := Nat.gcd_pos_of_pos_right a hb
  obtain ⟨x, hx⟩ := Nat.gcd_dvd_left a b
  obtain ⟨y, hy⟩ := Nat.gcd_dvd_right a b
  have ea : a / Nat.gcd a b = x := by
    conv => lhs; lhs; rw [hx]
    exact Nat.mul_div_cancel_left x hg
  have eb : b / Nat.gcd a b = y := by
    conv => lhs; lhs; rw [hy]
    exact Nat.mul_div_cancel_left y hg
  refine ⟨?_, ?_, ?_⟩
  · rw [eb]
    exact Nat.pos_of_ne_zero fun e => by rw [e, Nat.mul_zero] at hy; omega
  · rw [ea, eb]
    have h1 : Nat.gcd a b * Nat.gcd x y = Nat.gcd a b := by
      rw [← Nat.gcd_mul_left, ← hx, ← hy]
    refine Nat.eq_of_mul_eq_mul_left hg ?_
    rw [h1, Nat.mul_one]
  · rw [ea, eb]
    refine Nat.eq_of_mul_eq_mul_left hg ?_
    rw [← Nat.mul_assoc, ← hx, h]
    conv => lhs; rw [hy]
    rw [Nat.mul_left_comm]
theorem Fr.dvd {n d p q : Nat} (h : Fr n d p q) : q ∣ d :=
  Nat.Coprime.dvd_of_dvd_mul_left (Nat.Coprime.symm h.cop) (h.eq ▸ Nat.dvd_mul_left q n)
theorem Fr.uniq {n d p q p' q' : Nat} (hd : 0 < d) (h : Fr n d p q) (h' : Fr n d p' q') : p = p' ∧ q = q' := by
  have e : p * q' = p' * q := by
    refine Nat.eq_of_mul_eq_mul_right hd ?_
    calc p * q' * d = p * d * q' := by simp only [Nat.mul_comm, Nat.mul_left_comm, Nat.mul_assoc]
      _ = n * q * q' := by rw [h.eq]
      _ = n * q' * q := by simp only [Nat.mul_comm, Nat.mul_left_comm, Nat.mul_assoc]
      _ = p' * d * q := by rw [h'.eq]
      _ = p' * q * d := by simp only [Nat.mul_comm, Nat.mul_left_comm, Nat.mul_assoc]
  have h1 : q ∣ q' := Nat.Coprime.dvd_of_dvd_mul_left (Nat.Coprime.symm h.cop) (e ▸ Nat.dvd_mul_left q p')
  have h2 : q' ∣ q := Nat.Coprime.dvd_of_dvd_mul_left (Nat.Coprime.symm h'.cop) (e ▸ Nat.dvd_mul_left q' p)
  have eq : q = q' := Nat.dvd_antisymm h1 h2
  subst eq
  exact ⟨Nat.eq_of_mul_eq_mul_right h.pos e, rfl⟩
theorem Fr.qle {n d p q : Nat} (hd : 0 < d) (h : Fr n d p q) : q ≤ d := Nat.le_of_dvd hd h.dvd
theorem Fr.ple {n d p q : Nat} (hd : 0 < d) (h : Fr n d p q) : p ≤ n := by
  have h1 : p * d ≤ n * d := by rw [h.eq]; exact Nat.mul_le_mul_left n (h.qle hd)
  exact Nat.le_of_mul_le_mul_right h1 hd
theorem Fr.add {n d p q t u : Nat} (h : Fr n d p q) (ht : 0 < t) (e : t * u = d) : Fr (n + u) d ((p * t + q) / Nat.gcd (p * t + q) (q * t)) (q * t / Nat.gcd (p * t + q) (q * t)) := by
  refine Fr.red (Nat.mul_pos h.pos ht) ?_
  rw [Nat.add_mul, Nat.add_mul]
  have h1 : p * t * d = n * (q * t) := by
    calc p * t * d = p * d * t := by simp only [Nat.mul_comm, Nat.mul_left_comm, Nat.mul_assoc]
      _ = n * q * t := by rw [h.eq]
      _ = _ := by rw [Nat.mul_assoc]
  have h2 : q * d = u * (q * t) := by
    rw [← e]; simp only [Nat.mul_comm, Nat.mul_left_comm, Nat.mul_assoc]
  rw [h1, h2]
theorem Fr.gt {n d p q : Nat} (hd : 0 < d) (h : Fr n d p q) : q < p ↔ d < n := by
  constructor
  · intro l
    refine Nat.lt_of_not_le fun l2 => ?_
    have h1 : n * q ≤ d * q := Nat.mul_le_mul_right q l2
    rw [← h.eq, Nat.mul_comm d q] at h1
    have := Nat.le_of_mul_le_mul_right h1 hd
    omega
  · intro l
    refine Nat.lt_of_not_le fun l2 => ?_
    have h1 : p * d ≤ q * d := Nat.mul_le_mul_right d l2
    rw [h.eq, Nat.mul_comm q d] at h1
    have := Nat.le_of_mul_le_mul_right h1 h.pos
    omega
theorem Fr.one {n d p q : Nat} (hd : 0 < d) (h : Fr n d p q) : (p = 1 ∧ q = 1) ↔ n = d := by
  constructor
  · rintro ⟨rfl, rfl⟩
    have := h.eq
    omega
  · intro e
    subst e
    have : Fr n n 1 1 := ⟨by decide, by decide, by omega⟩
    exact h.uniq hd this
/-! ### the closure, by a search -/
theorem Dg.sub {ws : List (List Nat)} {S : List Nat → Prop} (h1 : ∀ (i j : Nat) (u v t : List Nat), i ≠ j → ws[i]? = some u → ws[j]? = some v → u = v ++ t → S t)
    (h2 : ∀ s w t, S s → s ≠ [] → w ∈ ws → s = w ++ t → S t) (h3 : ∀ s w t, S s → s ≠ [] → w ∈ ws → w = s ++ t → S t) {t : List Nat} (h : Dg ws t) : S t := by
  induction h with
  | first hij hi hj e => exact h1 _ _ _ _ _ hij hi hj e
  | left _ h0 hw e ih => exact h2 _ _ _ ih h0 hw e
  | right _ h0 hw e ih => exact h3 _ _ _ ih h0 hw e
def sufs : List Nat → List (List Nat)
  | [] => []
  | c :: t => (c :: t) :: sufs t
theorem sufs_len : ∀ w, (sufs w).length = w.length
  | [] => rfl
  | c :: t => by simp [sufs, sufs_len t]
theorem sufs_mem {t : List Nat} (h : t ≠ []) : ∀ {w : List Nat}, t <:+ w → t ∈ sufs w
  | [], hs => absurd (List.suffix_nil.mp hs) h
  | c :: w, hs => by
    rcases List.suffix_cons_iff.mp hs with rfl | hs
    · exact List.mem_cons_self
    · exact List.mem_cons_of_mem _ (sufs_mem h hs)
def allS (ws : List (List Nat)) : List (List Nat) := ws.flatMap sufs
theorem allS_mem {ws : List (List Nat)} {t : List Nat} (h : t ≠ []) (hd : Dg ws t) : t ∈ allS ws := by
  obtain ⟨w, hw, hs⟩ := hd.suf
  exact List.mem_flatMap.mpr ⟨w, hw, sufs_mem h hs⟩
theorem allS_len {L : Nat} : ∀ {ws : List (List Nat)}, (∀ w ∈ ws, w.length ≤ L) → (allS ws).length ≤ ws.length * L
  | [], _ => by simp [allS]
  | w :: ws, h => by
    have ih := allS_len (ws := ws) fun x hx => h x (List.mem_cons_of_mem _ hx)
    have := h w List.mem_cons_self
    have e : allS (w :: ws) = sufs w ++ allS ws := rfl
    rw [e, List.length_append, sufs_len, List.length_cons, Nat.add_mul]
    omega
theorem filter_lt {α : Type} {p q : α → Bool} (hpq : ∀ x, q x = true → p x = true) : ∀ {l : List α} {x : α}, x ∈ l → p x = true → q x = false → (l.filter q).length + 1 ≤ (l.filter p).length
  | a :: l, x, hx, h1, h2 => by
    have mono : ∀ l : List α, (l.filter q).length ≤ (l.filter p).length := by
      intro l
      induction l with
      | nil => simp
      | cons b l il =>
        by_cases hq : q b = true
        · rw [List.filter_cons_of_pos hq, List.filter_cons_of_pos (hpq b hq)]; simp; exact il
        · rw [List.filter_cons_of_neg hq]
          by_cases hp : p b = true
          · rw [List.filter_cons_of_pos hp]; simp; omega
          · rw [List.filter_cons_of_neg hp]; exact il
    rcases List.mem_cons.mp hx with rfl | hx
    · rw [List.filter_cons_of_pos h1, List.filter_cons_of_neg (by rw [h2]; decide)]
      have := mono l
      simp; exact this
    · have ih := filter_lt hpq hx h1 h2
      by_cases hq : q a = true
      · rw [List.filter_cons_of_pos hq, List.filter_cons_of_pos (hpq a hq)]; simp; exact ih
      · rw [List.filter_cons_of_neg hq]
        by_cases hp : p a = true
        · rw [List.filter_cons_of_pos hp]; simp; omega
        · rw [List.filter_cons_of_neg hp]; exact ih
/-- rests not gone through yet -/
def oc (ws done : List (List Nat)) : Nat := ((allS ws).filter fun t => decide (t ∉ done)).length
theorem oc_lt {ws done : List (List Nat)} {t : List Nat} (h : t ∈ allS ws) (hn : t ∉ done) : oc ws (done ++ [t]) + 1 ≤ oc ws done := by
  refine filter_lt (fun x hx => ?_) h (by simpa using hn) (by simp)
  simp at hx ⊢
  exact hx.1
theorem oc_le {ws done : List (List Nat)} {t : List Nat} : oc ws (done ++ [t]) ≤ oc ws done := by
  unfold oc
  induction allS ws with
  | nil => simp
  | cons a l il =>
    by_cases h1 : a ∈ done
    · rw [List.filter_cons_of_neg (by simp [h1]), List.filter_cons_of_neg (by simp [h1])]; exact il
    · rw [List.filter_cons_of_pos (a := a) (p := fun t => decide (t ∉ done)) (by simp [h1])]
      by_cases h2 : a = t
      · rw [List.filter_cons_of_neg (by simp [h2])]; simp at il ⊢; omega
      · rw [List.filter_cons_of_pos (by simp [h1, h2])]; simp at il ⊢; omega
theorem oc_max {ws done : List (List Nat)} : oc ws done ≤ (allS ws).length := List.length_filter_le _ _
/-- unlike texts among few -/
theorem nodup_le {α : Type} [BEq α] [LawfulBEq α] : ∀ {l m : List α}, l.Nodup → (∀ x ∈ l, x ∈ m) → l.length ≤ m.length
  | [], m, _, _ => Nat.zero_le _
  | a :: l, m, hn, h => by
    obtain ⟨h1, h2⟩ := List.nodup_cons.mp hn
    have ha := h a List.mem_cons_self
    have := nodup_le (l := l) (m := m.erase a) h2 fun x hx => (List.mem_erase_of_ne (fun e => h1 (by rw [← e]; exact hx))).mpr (h x (List.mem_cons_of_mem _ hx))
    have h3 := List.length_erase_of_mem ha
    have h4 := List.length_pos_of_mem ha
    rw [List.length_cons]
    omega
end PM
set_option Elab.async false
set_option linter.all false
set_option autoImplicit false
namespace PM
/-! ### two readers of one text: how many letters can be alike (plain) -/
abbrev Tx := List Nat
def restOf (a b : Tx) : Option Tx := if b.isPrefixOf a = true then some (a.drop b.length) else if a.isPrefixOf b = true then some (b.drop a.length) else none
theorem pre_drop {a b : Tx} (h : b.isPrefixOf a = true) : a = b ++ a.drop b.length := by
  obtain ⟨t, rfl⟩ := List.isPrefixOf_iff_prefix.mp h
  simp
theorem restOf_iff {a b t : Tx} : restOf a b = some t ↔ a = b ++ t ∨ b = a ++ t := by
  unfold restOf
  constructor
  · intro h
    split at h
    · rename_i hp
      cases h
      exact .inl (pre_drop hp)
    · split at h
      · rename_i hp
        cases h
        exact .inr (pre_drop hp)
      · cases h
  · intro h
    by_cases hp : b.isPrefixOf a = true
    · rw [if_pos hp]
      have hd := pre_drop hp
      rcases h with h | h
      · rw [h]; simp
      · have hl := congrArg List.length hd
        have hl2 := congrArg List.length h
        simp only [List.length_append] at hl hl2
        have : t = [] := List.length_eq_zero_iff.mp (by omega)
        subst this
        rw [List.append_nil] at h
        subst h
        simp
    · rw [if_neg hp]
      rcases h with h | h
      · exact absurd (List.isPrefixOf_iff_prefix.mpr ⟨t, h.symm⟩) hp
      · have : a.isPrefixOf b = true := List.isPrefixOf_iff_prefix.mpr ⟨t, h.symm⟩
        rw [if_pos this, h]
        simp
def lcp : Tx → Tx → Nat
  | a :: l, b :: r => if a = b then lcp l r + 1 else 0
  | _, _ => 0
theorem lcp_le : ∀ l r : Tx, lcp l r ≤ l.length ∧ lcp l r ≤ r.length
  | [], _ => by simp [lcp]
  | _ :: _, [] => by simp [lcp]
  | a :: l, b :: r => by
    have := lcp_le l r
    unfold lcp
    split
    · simp; omega
    · simp
theorem lcp_comm : ∀ l r : Tx, lcp l r = lcp r l
  | [], r => by cases r <;> rfl
  | _ :: _, [] => rfl
  | a :: l, b :: r => by
    unfold lcp
    by_cases h : a = b
    · rw [if_pos h, if_pos h.symm, lcp_comm l r]
    · rw [if_neg h, if_neg (fun e => h e.symm)]
theorem lcp_app : ∀ (v t : Tx), lcp (v ++ t) v = v.length
  | [], t => by cases t <;> rfl
  | a :: v, t => by
    show (if a = a then lcp (v ++ t) v + 1 else 0) = _
    rw [if_pos rfl, lcp_app v t]; rfl
/-- none begins the other: they part before either ends -/
theorem lcp_lt : ∀ {l r : Tx}, restOf l r = none → lcp l r < l.length ∧ lcp l r < r.length
  | [], r, h => by
    have : restOf [] r = some r := restOf_iff.mpr (.inr rfl)
    rw [this] at h; cases h
  | a :: l, [], h => by
    have : restOf (a :: l) [] = some (a :: l) := restOf_iff.mpr (.inl rfl)
    rw [this] at h; cases h
  | a :: l, b :: r, h => by
    unfold lcp
    by_cases e : a = b
    · subst e
      rw [if_pos rfl]
      have h2 : restOf l r = none := by
        cases q : restOf l r with
        | none => rfl
        | some t =>
          have : restOf (a :: l) (a :: r) = some t := by
            rcases restOf_iff.mp q with e | e
            · exact restOf_iff.mpr (.inl (by rw [e]; rfl))
            · exact restOf_iff.mpr (.inr (by rw [e]; rfl))
          rw [this] at h; cases h
      have := lcp_lt h2
      simp; omega
    · rw [if_neg e]; simp
abbrev Pr := Tx × Tx
def nxt (ws : List Tx) (l : Tx) : List Tx := if l = [] then ws else [l]
def swp (p : Pr) : Pr := (p.2, p.1)
inductive St (ws : List Tx) : Pr → Pr → Prop
  | mk {a : Nat} {l r l' r' : Tx} : l' ∈ nxt ws l → r' ∈ nxt ws r → ¬ (l = [] ∧ r = []) → St ws (a :: l, a :: r) (l', r')
/-- both words end at once -/
def Co (p : Pr) : Prop := ∃ a, p = ([a], [a])
inductive Ss (ws : List Tx) : Nat → Pr → Pr → Prop
  | nil (p : Pr) : Ss ws 0 p p
  | cons {n : Nat} {p q r : Pr} : St ws p q → Ss ws n q r → Ss ws (n + 1) p r
theorem Ss.app {ws : List Tx} {m n : Nat} {p q r : Pr} (h : Ss ws m p q) (k : Ss ws n q r) : Ss ws (m + n) p r := by
  induction h with
  | nil => rw [Nat.zero_add]; exact k
  | cons s _ ih =>
    rw [Nat.succ_add]
    exact .cons s (ih k)
theorem St.swap {ws : List Tx} {p q : Pr} (h : St ws p q) : St ws (swp p) (swp q) := by
  cases h with
  | mk h1 h2 h3 => exact .mk h2 h1 fun e => h3 ⟨e.2, e.1⟩
theorem Ss.swap {ws : List Tx} {n : Nat} {p q : Pr} (h : Ss ws n p q) : Ss ws n (swp p) (swp q) := by
  induction h with
  | nil => exact .nil _
  | cons s _ ih => exact .cons s.swap ih
theorem Ss.pre {ws : List Tx} {p q : Pr} : ∀ {n m : Nat}, Ss ws n p q → m ≤ n → ∃ r, Ss ws m p r := by
  intro n m h
  induction h generalizing m with
  | nil p =>
    intro hm
    obtain rfl : m = 0 := Nat.le_zero.mp hm
    exact ⟨p, .nil p⟩
  | cons s _ ih =>
    intro hm
    cases m with
    | zero => exact ⟨_, .nil _⟩
    | succ m =>
      obtain ⟨r, hr⟩ := ih (show m ≤ _ by omega)
      exact ⟨r, .cons s hr⟩
theorem Ss.snoc {ws : List Tx} {p r : Pr} : ∀ {n : Nat}, Ss ws (n + 1) p r → ∃ q, Ss ws n p q ∧ St ws q r
  | 0, h => by
    cases h with
    | cons s t => cases t; exact ⟨p, .nil p, s⟩
  | n + 1, h => by
    cases h with
    | cons s t =>
      obtain ⟨q, h1, h2⟩ := Ss.snoc t
      exact ⟨q, .cons s h1, h2⟩
theorem Co.stuck {ws : List Tx} {p q : Pr} (h : Co p) : ¬ St ws p q := by
  obtain ⟨a, rfl⟩ := h
  intro s
  cases s with
  | mk _ _ h3 => exact h3 ⟨rfl, rfl⟩
/-! #### a rest against a word -/
variable {ws : List Tx}
/-- the other word ends first -/
theorem run_left : ∀ {v t : Tx}, v ≠ [] → t ≠ [] → ∀ w' ∈ ws, Ss ws v.length (v ++ t, v) (t, w')
  | [], _, h, _, _, _ => absurd rfl h
  | [a], t, _, ht, w', hw => by
    refine .cons (q := (t, w')) (show St ws (a :: t, a :: []) (t, w') from ?_) (.nil _)
    refine .mk (by unfold nxt; rw [if_neg ht]; exact List.mem_singleton.mpr rfl) (by unfold nxt; rw [if_pos rfl]; exact hw) fun e => ht e.1
  | a :: b :: v, t, _, ht, w', hw => by
    have ih := run_left (v := b :: v) (t := t) (by simp) ht w' hw
    refine .cons (q := (b :: v ++ t, b :: v)) ?_ ih
    refine .mk (by unfold nxt; rw [if_neg (by simp)]; exact List.mem_singleton.mpr rfl) (by unfold nxt; rw [if_neg (by simp)]; exact List.mem_singleton.mpr rfl) fun e => by simp at e
theorem run_right {v t : Tx} (hv : v ≠ []) (ht : t ≠ []) {w' : Tx} (hw : w' ∈ ws) : Ss ws v.length (v, v ++ t) (w', t) := (run_left hv ht w' hw).swap
/-- both end at once -/
theorem run_co : ∀ {v : Tx}, v ≠ [] → ∃ n q, Ss ws n (v, v) q ∧ Co q
  | [], h => absurd rfl h
  | [a], _ => ⟨0, _, .nil _, a, rfl⟩
  | a :: b :: v, _ => by
    obtain ⟨n, q, h1, h2⟩ := run_co (v := b :: v) (by simp)
    exact ⟨n + 1, q, .cons (.mk (by unfold nxt; rw [if_neg (by simp)]; exact List.mem_singleton.mpr rfl) (by unfold nxt; rw [if_neg (by simp)]; exact List.mem_singleton.mpr rfl) fun e => by simp at e) h1, h2⟩
/-- they part -/
theorem run_part : ∀ {l r : Tx}, restOf l r = none → ∃ q, Ss ws (lcp l r) (l, r) q
  | [], r, h => by have := lcp_lt h; simp at this
  | _ :: _, [], h => by have := lcp_lt h; simp at this
  | a :: l, b :: r, h => by
    unfold lcp
    by_cases e : a = b
    · subst e
      rw [if_pos rfl]
      have h2 : restOf l r = none := by
        cases q : restOf l r with
        | none => rfl
        | some t =>
          have : restOf (a :: l) (a :: r) = some t := by
            rcases restOf_iff.mp q with e | e
            · exact restOf_iff.mpr (.inl (by rw [e]; rfl))
            · exact restOf_iff.mpr (.inr (by rw [e]; rfl))
          rw [this] at h; cases h
      have hl := lcp_lt h2
      obtain ⟨q, hq⟩ := run_part (l := l) (r := r) h2
      have hl0 : l ≠ [] := fun e => by rw [e] at hl; simp at hl
      have hr0 : r ≠ [] := fun e => by rw [e] at hl; simp at hl
      exact ⟨q, .cons (.mk (by unfold nxt; rw [if_neg hl0]; exact List.mem_singleton.mpr rfl) (by unfold nxt; rw [if_neg hr0]; exact List.mem_singleton.mpr rfl) fun e => hl0 e.1) hq⟩
    · rw [if_neg e]; exact ⟨_, .nil _⟩
theorem part_le : ∀ {n : Nat} {l r : Tx} {q : Pr}, restOf l r = none → Ss ws n (l, r) q → n ≤ lcp l r ∧ ¬ Co q
  | n, l, r, q, h, s => by
    have hl := lcp_lt h
    cases s with
    | nil =>
      refine ⟨Nat.zero_le _, ?_⟩
      rintro ⟨a, e⟩
      cases e
      simp [restOf] at h
    | @cons n p q' r' s t =>
      cases s with
      | @mk a l0 r0 l' r' h1 h2 h3 =>
        have h2' : restOf l0 r0 = none := by
          cases q : restOf l0 r0 with
          | none => rfl
          | some t =>
            have : restOf (a :: l0) (a :: r0) = some t := by
              rcases restOf_iff.mp q with e | e
              · exact restOf_iff.mpr (.inl (by rw [e]; rfl))
              · exact restOf_iff.mpr (.inr (by rw [e]; rfl))
            rw [this] at h; cases h
        have hl2 := lcp_lt h2'
        have hl0 : l0 ≠ [] := fun e => by rw [e] at hl2; simp at hl2
        have hr0 : r0 ≠ [] := fun e => by rw [e] at hl2; simp at hl2
        unfold nxt at h1 h2
        rw [if_neg hl0] at h1
        rw [if_neg hr0] at h2
        obtain rfl := List.mem_singleton.mp h1
        obtain rfl := List.mem_singleton.mp h2
        obtain ⟨g1, g2⟩ := part_le h2' t
        refine ⟨?_, g2⟩
        unfold lcp
        rw [if_pos rfl]; omega
/-- a run over a prefix: it ends within, or goes on with the rest against a word -/
theorem over_left : ∀ {v t : Tx} {n : Nat} {q : Pr}, v ≠ [] → t ≠ [] → Ss ws n (v ++ t, v) q → (n < v.length ∧ ¬ Co q) ∨ ∃ w' ∈ ws, ∃ m, n = v.length + m ∧ Ss ws m (t, w') q
  | [], _, _, _, h, _, _ => absurd rfl h
  | [a], t, n, q, _, ht, s => by
    cases s with
    | nil =>
      refine .inl ⟨by simp, ?_⟩
      rintro ⟨b, e⟩
      have e1 := congrArg (fun p : Pr => p.1.length) e
      have ht1 := List.length_pos_iff.mpr ht
      simp at e1
      exact ht e1
    | cons s k =>
      cases s with
      | mk h1 h2 h3 =>
        unfold nxt at h1 h2
        rw [if_neg (by simpa using ht)] at h1
        rw [if_pos rfl] at h2
        obtain rfl := List.mem_singleton.mp h1
        exact .inr ⟨_, h2, _, by simp [Nat.add_comm], k⟩
  | a :: b :: v, t, n, q, _, ht, s => by
    cases s with
    | nil =>
      refine .inl ⟨by simp, ?_⟩
      rintro ⟨c, e⟩
      have e1 := congrArg (fun p : Pr => p.2.length) e
      simp at e1
    | cons s k =>
      cases s with
      | mk h1 h2 h3 =>
        unfold nxt at h1 h2
        rw [if_neg (by simp)] at h1
        rw [if_neg (by simp)] at h2
        obtain rfl := List.mem_singleton.mp h1
        obtain rfl := List.mem_singleton.mp h2
        rcases over_left (v := b :: v) (t := t) (by simp) ht k with ⟨g1, g2⟩ | ⟨w', hw, m, e, g⟩
        · exact .inl ⟨by simp at g1 ⊢; omega, g2⟩
        · exact .inr ⟨w', hw, m, by simp at e ⊢; omega, g⟩
theorem over_right {v t : Tx} {n : Nat} {q : Pr} (hv : v ≠ []) (ht : t ≠ []) (s : Ss ws n (v, v ++ t) q) : (n < v.length ∧ ¬ Co q) ∨ ∃ w' ∈ ws, ∃ m, n = v.length + m ∧ Ss ws m (t, w') (swp q) := by
  rcases over_left hv ht s.swap with ⟨h1, h2⟩ | ⟨w', hw, m, e, g⟩
  · refine .inl ⟨h1, ?_⟩
    rintro ⟨a, rfl⟩
    exact h2 ⟨a, rfl⟩
  · exact .inr ⟨w', hw, m, e, g⟩
theorem Co.swap {q : Pr} (h : Co (swp q)) : Co q := by
  obtain ⟨a, e⟩ := h
  refine ⟨a, ?_⟩
  unfold swp at e
  injection e with e1 e2
  exact Prod.ext e2 e1
/-! #### the table -/
/-- one turn of the table, at a rest -/
def tg1 (T : Tx → Nat) (s w : Tx) : Nat := lcp s w + (match restOf s w with | none => 0 | some t => T t)
def mx : List Nat → Nat
  | [] => 0
  | a :: l => max a (mx l)
theorem mx_ge : ∀ {l : List Nat} {a : Nat}, a ∈ l → a ≤ mx l
  | b :: l, a, h => by
    unfold mx
    rcases List.mem_cons.mp h with rfl | h
    · exact Nat.le_max_left _ _
    · exact Nat.le_trans (mx_ge h) (Nat.le_max_right _ _)
theorem mx_mem : ∀ {l : List Nat}, l ≠ [] → mx l ∈ l
  | [a], _ => by simp [mx]
  | a :: b :: l, _ => by
    have ih := mx_mem (l := b :: l) (by simp)
    show max a (mx (b :: l)) ∈ _
    by_cases h : a ≤ mx (b :: l)
    · rw [Nat.max_eq_right h]; exact List.mem_cons_of_mem _ ih
    · rw [Nat.max_eq_left (by omega)]; exact List.mem_cons_self
def tg (ws : List Tx) (T : Tx → Nat) (s : Tx) : Nat := mx (ws.map (tg1 T s))
def tbl (ws : List Tx) : Nat → Tx → Nat
  | 0, _ => 0
  | k + 1, s => tg ws (tbl ws k) s
theorem tg_mono {T U : Tx → Nat} (h : ∀ t, T t ≤ U t) (s : Tx) : tg ws T s ≤ tg ws U s := by
  unfold tg
  induction ws with
  | nil => exact Nat.le_refl _
  | cons w ws ih =>
    rw [List.map_cons, List.map_cons]
    have h1 : tg1 T s w ≤ tg1 U s w := by
      unfold tg1
      cases restOf s w with
      | none => exact Nat.le_refl _
      | some t => exact Nat.add_le_add_left (h t) _
    show max _ _ ≤ max _ _
    omega
theorem tbl_mono : ∀ (k : Nat) (s : Tx), tbl ws k s ≤ tbl ws (k + 1) s
  | 0, s => Nat.zero_le _
  | k + 1, s => tg_mono (tbl_mono k) s
/-- the rest stands: a rest from which one can go on -/
structure Go (ws : List Tx) : Prop where
  ne : ∀ w ∈ ws, w ≠ []
  some_ : ws ≠ []
  single : ¬ Dg ws []
theorem Go.next (g : Go ws) {s w t : Tx} (h : Dg ws s) (h0 : s ≠ []) (hw : w ∈ ws) (e : restOf s w = some t) : Dg ws t ∧ t ≠ [] := by
  have hd : Dg ws t := by
    rcases restOf_iff.mp e with e | e
    · exact .left h h0 hw e
    · exact .right h h0 hw e
  exact ⟨hd, fun z => g.single (z ▸ hd)⟩
/-- an edge: with the rest t behind it, from s a run of c letters more -/
theorem go_on (g : Go ws) {s w t : Tx} (h0 : s ≠ []) (ht : t ≠ []) (hw : w ∈ ws) (e : restOf s w = some t) {n : Nat} (hn : ∃ w' ∈ ws, ∃ q, Ss ws n (t, w') q) : 1 ≤ lcp s w ∧ ∃ q, Ss ws (lcp s w + n) (s, w) q := by
  obtain ⟨w', hw', q, hq⟩ := hn
  rcases restOf_iff.mp e with e | e
  · have hl : lcp s w = w.length := by rw [e]; exact lcp_app w t
    rw [hl]
    have hwn := g.ne w hw
    refine ⟨List.length_pos_iff.mpr hwn, q, ?_⟩
    have := run_left hwn ht w' hw'
    rw [← e] at this
    exact this.app hq
  · have hl : lcp s w = s.length := by rw [e, lcp_comm]; exact lcp_app s t
    rw [hl]
    refine ⟨List.length_pos_iff.mpr h0, swp q, ?_⟩
    have := run_right h0 ht hw' (ws := ws)
    rw [← e] at this
    exact this.app hq.swap
/-- what the table tells can be run -/
theorem tbl_run (g : Go ws) : ∀ (k : Nat) (s : Tx), Dg ws s → s ≠ [] → ∃ w ∈ ws, ∃ q, Ss ws (tbl ws k s) (s, w) q
  | 0, s, _, _ => by
    obtain ⟨w, hw⟩ := List.exists_mem_of_ne_nil _ g.some_
    exact ⟨w, hw, _, .nil _⟩
  | k + 1, s, hd, h0 => by
    have hm := mx_mem (l := ws.map (tg1 (tbl ws k) s)) (by simpa using g.some_)
    obtain ⟨w, hw, e⟩ := List.mem_map.mp hm
    refine ⟨w, hw, ?_⟩
    show ∃ q, Ss ws (tg ws (tbl ws k) s) (s, w) q
    unfold tg
    rw [← e]
    unfold tg1
    cases er : restOf s w with
    | none => exact run_part er
    | some t =>
      obtain ⟨hdt, ht⟩ := g.next hd h0 hw er
      exact (go_on g h0 ht hw er (tbl_run g k t hdt ht)).2
/-- stable: T is its own turn at the rests -/
structure Stab (ws : List Tx) (T : Tx → Nat) : Prop where
  eq : ∀ s, Dg ws s → T s = tg ws T s
theorem Stab.ge {T : Tx → Nat} (h : Stab ws T) {s w : Tx} (hd : Dg ws s) (hw : w ∈ ws) : tg1 T s w ≤ T s := by
  rw [h.eq s hd]
  exact mx_ge (List.mem_map.mpr ⟨w, hw, rfl⟩)
/-- no run is longer than the table tells, and none meets -/
theorem stab_run (g : Go ws) {T : Tx → Nat} (h : Stab ws T) : ∀ (n : Nat) (s w : Tx) (q : Pr), Dg ws s → s ≠ [] → w ∈ ws → Ss ws n (s, w) q → n ≤ T s ∧ ¬ Co q := by
  intro n
  induction n using Nat.strongRecOn with
  | ind n ih =>
    intro s w q hd h0 hw hs
    have hge := h.ge hd hw
    unfold tg1 at hge
    cases er : restOf s w with
    | none =>
      rw [er] at hge
      obtain ⟨a, b⟩ := part_le er hs
      exact ⟨by omega, b⟩
    | some t =>
      rw [er] at hge
      have hge : lcp s w + T t ≤ T s := hge
      obtain ⟨hdt, ht⟩ := g.next hd h0 hw er
      rcases restOf_iff.mp er with e | e
      · have hl : lcp s w = w.length := by rw [e]; exact lcp_app w t
        have hwn := g.ne w hw
        have hwl := List.length_pos_iff.mpr hwn
        rw [e] at hs
        rcases over_left hwn ht hs with ⟨a, b⟩ | ⟨w', hw', m, rfl, k⟩
        · exact ⟨by omega, b⟩
        · obtain ⟨a, b⟩ := ih m (by omega) t w' q hdt ht hw' k
          exact ⟨by omega, b⟩
      · have hl : lcp s w = s.length := by rw [e, lcp_comm]; exact lcp_app s t
        have hsl := List.length_pos_iff.mpr h0
        rw [e] at hs
        rcases over_right h0 ht hs with ⟨a, b⟩ | ⟨w', hw', m, rfl, k⟩
        · exact ⟨by omega, b⟩
        · obtain ⟨a, b⟩ := ih m (by omega) t w' (swp q) hdt ht hw' k
          refine ⟨by omega, fun c => b ?_⟩
          obtain ⟨x, rfl⟩ := c
          exact ⟨x, rfl⟩
end PM
set_option Elab.async false
set_option linter.all false
set_option autoImplicit false
namespace PM
variable {ws : List Tx}
/-! ### delays -/
/-- as go_on, for any text ahead -/
theorem step_on {s w t : Tx} (hwn : w ≠ []) (h0 : s ≠ []) (ht : t ≠ []) (e : restOf s w = some t) {w' : Tx} (hw' : w' ∈ ws) {n : Nat} {q : Pr} (hq : Ss ws n (t, w') q) : 1 ≤ lcp s w ∧ ∃ r, Ss ws (lcp s w + n) (s, w) r ∧ (Co q → Co r) := by
  rcases restOf_iff.mp e with e | e
  · have hl : lcp s w = w.length := by rw [e]; exact lcp_app w t
    rw [hl]
    refine ⟨List.length_pos_iff.mpr hwn, q, ?_, id⟩
    have := run_left hwn ht w' hw'
    rw [← e] at this
    exact this.app hq
  · have hl : lcp s w = s.length := by rw [e, lcp_comm]; exact lcp_app s t
    rw [hl]
    refine ⟨List.length_pos_iff.mpr h0, swp q, ?_, fun ⟨a, h⟩ => ⟨a, by rw [h]; rfl⟩⟩
    have := run_right h0 ht hw' (ws := ws)
    rw [← e] at this
    exact this.app hq.swap
/-- two unlike places' words -/
structure Two' (ws : List Tx) (u v : Tx) : Prop where
  ex : ∃ i j : Nat, i ≠ j ∧ ws[i]? = some u ∧ ws[j]? = some v
theorem Two'.mem {u v : Tx} (h : Two' ws u v) : u ∈ ws ∧ v ∈ ws := by
  obtain ⟨i, j, _, h1, h2⟩ := h.ex
  exact ⟨List.mem_of_getElem? h1, List.mem_of_getElem? h2⟩
theorem Two'.swap {u v : Tx} (h : Two' ws u v) : Two' ws v u := by
  obtain ⟨i, j, h0, h1, h2⟩ := h.ex
  exact ⟨j, i, Ne.symm h0, h2, h1⟩
theorem Two'.dg {u v t : Tx} (h : Two' ws u v) (e : restOf u v = some t) : Dg ws t := by
  obtain ⟨i, j, h0, h1, h2⟩ := h.ex
  rcases restOf_iff.mp e with e | e
  · exact .first h0 h1 h2 e
  · exact .first (Ne.symm h0) h2 h1 e
/-- for ever, or to one end -/
def Ever (ws : List Tx) (p : Pr) : Prop := (∃ n q, Ss ws n p q ∧ Co q) ∨ ∀ N, ∃ q, Ss ws N p q
theorem Ever.swap {p : Pr} (h : Ever ws p) : Ever ws (swp p) := by
  rcases h with ⟨n, q, h1, a, rfl⟩ | h
  · exact .inl ⟨n, _, h1.swap, a, rfl⟩
  · exact .inr fun N => by obtain ⟨q, hq⟩ := h N; exact ⟨_, hq.swap⟩
/-- what meets behind a rest meets behind two words -/
theorem co_first (hne : ∀ w ∈ ws, w ≠ []) {t : Tx} (h : Dg ws t) : (t = [] ∨ ∃ w ∈ ws, ∃ n q, Ss ws n (t, w) q ∧ Co q) → ∃ u v, Two' ws u v ∧ ∃ n q, Ss ws n (u, v) q ∧ Co q := by
  induction h with
  | @first i j u v t hij hi hj e =>
    intro hc
    have hu := hne u (List.mem_of_getElem? hi)
    have hv := hne v (List.mem_of_getElem? hj)
    have two : Two' ws u v := ⟨i, j, hij, hi, hj⟩
    rcases hc with rfl | ⟨w, hw, n, q, h1, h2⟩
    · rw [List.append_nil] at e
      subst e
      obtain ⟨n, q, h1, h2⟩ := run_co (ws := ws) hu
      exact ⟨u, u, two, n, q, h1, h2⟩
    · by_cases ht : t = []
      · subst ht
        rw [List.append_nil] at e
        subst e
        obtain ⟨n, q, h1, h2⟩ := run_co (ws := ws) hu
        exact ⟨u, u, two, n, q, h1, h2⟩
      · obtain ⟨_, r, h3, h4⟩ := step_on hv hu ht (restOf_iff.mpr (.inl e)) hw h1
        exact ⟨u, v, two, _, r, h3, h4 h2⟩
  | @left s w t hs h0 hw e ih =>
    intro hc
    refine ih (.inr ?_)
    by_cases ht : t = []
    · subst ht
      rw [List.append_nil] at e
      subst e
      obtain ⟨n, q, h1, h2⟩ := run_co (ws := ws) h0
      exact ⟨s, hw, n, q, h1, h2⟩
    · rcases hc with h | ⟨w', hw', n, q, h1, h2⟩
      · exact absurd h ht
      · obtain ⟨_, r, h3, h4⟩ := step_on (hne w hw) h0 ht (restOf_iff.mpr (.inl e)) hw' h1
        exact ⟨w, hw, _, r, h3, h4 h2⟩
  | @right s w t hs h0 hw e ih =>
    intro hc
    refine ih (.inr ?_)
    by_cases ht : t = []
    · subst ht
      rw [List.append_nil] at e
      subst e
      obtain ⟨n, q, h1, h2⟩ := run_co (ws := ws) h0
      exact ⟨w, hw, n, q, h1, h2⟩
    · rcases hc with h | ⟨w', hw', n, q, h1, h2⟩
      · exact absurd h ht
      · obtain ⟨_, r, h3, h4⟩ := step_on (hne w hw) h0 ht (restOf_iff.mpr (.inr e)) hw' h1
        exact ⟨w, hw, _, r, h3, h4 h2⟩
/-- how long one can go on from a rest, one can from two words -/
theorem long_first (g : Go ws) {s : Tx} (h : Dg ws s) : ∃ u v, Two' ws u v ∧ ∀ n, (∃ w ∈ ws, ∃ q, Ss ws n (s, w) q) → ∃ N, n ≤ N ∧ ∃ q, Ss ws N (u, v) q := by
  have step : ∀ s w t : Tx, Dg ws s → s ≠ [] → w ∈ ws → restOf s w = some t → (∃ u v, Two' ws u v ∧ ∀ n, (∃ w ∈ ws, ∃ q, Ss ws n (s, w) q) → ∃ N, n ≤ N ∧ ∃ q, Ss ws N (u, v) q) →
      ∃ u v, Two' ws u v ∧ ∀ n, (∃ w ∈ ws, ∃ q, Ss ws n (t, w) q) → ∃ N, n ≤ N ∧ ∃ q, Ss ws N (u, v) q := by
    intro s w t hs h0 hw e ⟨u, v, two, ih⟩
    refine ⟨u, v, two, fun n hn => ?_⟩
    obtain ⟨_, ht⟩ := g.next hs h0 hw e
    obtain ⟨_, q, hq⟩ := go_on g h0 ht hw e hn
    obtain ⟨N, h1, h2⟩ := ih _ ⟨w, hw, q, hq⟩
    exact ⟨N, by omega, h2⟩
  induction h with
  | @first i j u v t hij hi hj e =>
    refine ⟨u, v, ⟨i, j, hij, hi, hj⟩, fun n ⟨w, hw, q, hq⟩ => ?_⟩
    have ht : t ≠ [] := fun z => g.single (z ▸ Dg.first hij hi hj e)
    obtain ⟨h1, r, h2, _⟩ := step_on (g.ne v (List.mem_of_getElem? hj)) (g.ne u (List.mem_of_getElem? hi)) ht (restOf_iff.mpr (.inl e)) hw hq
    exact ⟨_, by omega, r, h2⟩
  | @left s w t hs h0 hw e ih => exact step s w t hs h0 hw (restOf_iff.mpr (.inl e)) ih
  | @right s w t hs h0 hw e ih => exact step s w t hs h0 hw (restOf_iff.mpr (.inr e)) ih
/-- two words under a stable table -/
theorem pair_max (g : Go ws) {T : Tx → Nat} (h : Stab ws T) {u v : Tx} (two : Two' ws u v) {n : Nat} {q : Pr} (hs : Ss ws n (u, v) q) : n ≤ tg1 T u v ∧ ¬ Co q := by
  have hu := g.ne u two.mem.1
  have hv := g.ne v two.mem.2
  unfold tg1
  cases er : restOf u v with
  | none => exact part_le er hs
  | some t =>
    have hd := two.dg er
    have ht : t ≠ [] := fun z => g.single (z ▸ hd)
    show n ≤ lcp u v + T t ∧ _
    rcases restOf_iff.mp er with e | e
    · have hl : lcp u v = v.length := by rw [e]; exact lcp_app v t
      rw [e] at hs
      rcases over_left hv ht hs with ⟨a, b⟩ | ⟨w', hw', m, rfl, k⟩
      · exact ⟨by omega, b⟩
      · obtain ⟨a, b⟩ := stab_run g h m t w' q hd ht hw' k
        exact ⟨by omega, b⟩
    · have hl : lcp u v = u.length := by rw [e, lcp_comm]; exact lcp_app u t
      rw [e] at hs
      rcases over_right hu ht hs with ⟨a, b⟩ | ⟨w', hw', m, rfl, k⟩
      · exact ⟨by omega, b⟩
      · obtain ⟨a, b⟩ := stab_run g h m t w' (swp q) hd ht hw' k
        refine ⟨by omega, fun c => b ?_⟩
        obtain ⟨x, rfl⟩ := c
        exact ⟨x, rfl⟩
/-- a table whose numbers can be run -/
def Runs (ws : List Tx) (T : Tx → Nat) : Prop := ∀ s, Dg ws s → s ≠ [] → ∃ w ∈ ws, ∃ q, Ss ws (T s) (s, w) q
theorem pair_run (g : Go ws) {T : Tx → Nat} (h : Runs ws T) {u v : Tx} (two : Two' ws u v) : ∃ q, Ss ws (tg1 T u v) (u, v) q := by
  unfold tg1
  cases er : restOf u v with
  | none => exact run_part er
  | some t =>
    have hd := two.dg er
    have ht : t ≠ [] := fun z => g.single (z ▸ hd)
    obtain ⟨w, hw, q, hq⟩ := h t hd ht
    obtain ⟨_, r, h2, _⟩ := step_on (g.ne v two.mem.2) (g.ne u two.mem.1) ht er hw hq
    exact ⟨r, h2⟩
/-! #### how great -/
def sumL (l : List Tx) : Nat := (l.map List.length).sum
theorem sumL_filter {p q : Tx → Bool} (hpq : ∀ x, p x = true → q x = true) : ∀ l : List Tx, sumL (l.filter p) ≤ sumL (l.filter q)
  | [] => Nat.le_refl _
  | a :: l => by
    have ih := sumL_filter hpq l
    by_cases hp : p a = true
    · rw [List.filter_cons_of_pos hp, List.filter_cons_of_pos (hpq a hp)]
      simp only [sumL, List.map_cons, List.sum_cons] at ih ⊢
      omega
    · rw [List.filter_cons_of_neg hp]
      by_cases hq : q a = true
      · rw [List.filter_cons_of_pos hq]
        simp only [sumL, List.map_cons, List.sum_cons] at ih ⊢
        omega
      · rw [List.filter_cons_of_neg hq]; exact ih
theorem sumL_more {p q : Tx → Bool} (hpq : ∀ x, p x = true → q x = true) : ∀ {l : List Tx} {s : Tx}, s ∈ l → p s = false → q s = true → s.length + sumL (l.filter p) ≤ sumL (l.filter q)
  | a :: l, s, hs, h1, h2 => by
    rcases List.mem_cons.mp hs with rfl | hs
    · rw [List.filter_cons_of_neg (by rw [h1]; decide), List.filter_cons_of_pos h2]
      have := sumL_filter hpq l
      simp only [sumL, List.map_cons, List.sum_cons] at this ⊢
      omega
    · have ih := sumL_more hpq hs h1 h2
      by_cases hp : p a = true
      · rw [List.filter_cons_of_pos hp, List.filter_cons_of_pos (hpq a hp)]
        simp only [sumL, List.map_cons, List.sum_cons] at ih ⊢
        omega
      · rw [List.filter_cons_of_neg hp]
        by_cases hq : q a = true
        · rw [List.filter_cons_of_pos hq]
          simp only [sumL, List.map_cons, List.sum_cons] at ih ⊢
          omega
        · rw [List.filter_cons_of_neg hq]; exact ih
theorem sumL_all (p : Tx → Bool) (l : List Tx) : sumL (l.filter p) ≤ sumL l := by
  have := sumL_filter (p := p) (q := fun _ => true) (fun _ _ => rfl) l
  rwa [List.filter_eq_self.mpr (fun _ _ => rfl)] at this
theorem stab_bound (g : Go ws) {T : Tx → Nat} (h : Stab ws T) {E : List Tx} (hE : ∀ t, Dg ws t → t ∈ E) : ∀ (n : Nat) (s : Tx), T s = n → Dg ws s → s ≠ [] → T s ≤ sumL (E.filter fun u => decide (T u ≤ T s)) := by
  intro n
  induction n using Nat.strongRecOn with
  | ind n ih =>
    intro s hn hd h0
    have hs := hE s hd
    have hm := mx_mem (l := ws.map (tg1 T s)) (by simpa using g.some_)
    obtain ⟨w, hw, e⟩ := List.mem_map.mp hm
    have eT : T s = tg1 T s w := by rw [h.eq s hd]; exact e.symm
    have hl := (lcp_le s w).1
    have self : s.length + sumL (E.filter fun u => decide (T u < T s)) ≤ sumL (E.filter fun u => decide (T u ≤ T s)) :=
      sumL_more (fun x hx => by simp at hx ⊢; omega) hs (by simp) (by simp)
    unfold tg1 at eT
    cases er : restOf s w with
    | none =>
      rw [er] at eT
      have eT : T s = lcp s w + 0 := eT
      omega
    | some t =>
      rw [er] at eT
      have eT : T s = lcp s w + T t := eT
      obtain ⟨hdt, ht⟩ := g.next hd h0 hw er
      have hpos : 1 ≤ lcp s w := by
        rcases restOf_iff.mp er with e | e
        · have : lcp s w = w.length := by rw [e]; exact lcp_app w t
          have := List.length_pos_iff.mpr (g.ne w hw)
          omega
        · have : lcp s w = s.length := by rw [e, lcp_comm]; exact lcp_app s t
          have := List.length_pos_iff.mpr h0
          omega
      have h1 := ih (T t) (by omega) t rfl hdt ht
      have h2 : sumL (E.filter fun u => decide (T u ≤ T t)) ≤ sumL (E.filter fun u => decide (T u < T s)) := sumL_filter (fun x hx => by simp at hx ⊢; omega) E
      omega
theorem tg1_bound (g : Go ws) {T : Tx → Nat} (h : Stab ws T) {E : List Tx} (hE : ∀ t, Dg ws t → t ∈ E) {u v : Tx} (two : Two' ws u v) {L : Nat} (hL : ∀ w ∈ ws, w.length ≤ L) : tg1 T u v ≤ L + sumL E := by
  have hl := (lcp_le u v).1
  have hu := hL u two.mem.1
  unfold tg1
  cases er : restOf u v with
  | none => show lcp u v + 0 ≤ _; omega
  | some t =>
    have hd := two.dg er
    have ht : t ≠ [] := fun z => g.single (z ▸ hd)
    have h1 := stab_bound g h hE _ t rfl hd ht
    have h2 := sumL_all (fun u => decide (T u ≤ T t)) E
    show lcp u v + T t ≤ _
    omega
/-! #### a table that does not come to rest -/
def Pm (ws : List Tx) : Nat → Tx → Prop
  | 0, _ => True
  | m + 1, s => ∃ w ∈ ws, ∃ t, restOf s w = some t ∧ Pm ws m t
theorem Pm.less : ∀ {m : Nat} {s : Tx}, Pm ws (m + 1) s → Pm ws m s
  | 0, _, _ => trivial
  | m + 1, s, ⟨w, hw, t, e, h⟩ => ⟨w, hw, t, e, Pm.less h⟩
theorem grows (g : Go ws) : ∀ (i : Nat) (s : Tx), Dg ws s → s ≠ [] → tbl ws i s < tbl ws (i + 1) s → Pm ws i s
  | 0, _, _, _, _ => trivial
  | i + 1, s, hd, h0, hlt => by
    have hm := mx_mem (l := ws.map (tg1 (tbl ws (i + 1)) s)) (by simpa using g.some_)
    obtain ⟨w, hw, e⟩ := List.mem_map.mp hm
    have e2 : tbl ws (i + 2) s = tg1 (tbl ws (i + 1)) s w := e.symm
    have h3 : tg1 (tbl ws i) s w ≤ tbl ws (i + 1) s := mx_ge (List.mem_map.mpr ⟨w, hw, rfl⟩)
    rw [e2] at hlt
    unfold tg1 at hlt h3
    cases er : restOf s w with
    | none =>
      rw [er] at hlt h3
      have hlt : tbl ws (i + 1) s < lcp s w + 0 := hlt
      have h3 : lcp s w + 0 ≤ tbl ws (i + 1) s := h3
      omega
    | some t =>
      rw [er] at hlt h3
      have hlt : tbl ws (i + 1) s < lcp s w + tbl ws (i + 1) t := hlt
      have h3 : lcp s w + tbl ws i t ≤ tbl ws (i + 1) s := h3
      obtain ⟨hdt, ht⟩ := g.next hd h0 hw er
      exact ⟨w, hw, t, er, grows g i t hdt ht (by omega)⟩
theorem Pm.run (g : Go ws) : ∀ (m : Nat) (s : Tx), Dg ws s → s ≠ [] → Pm ws m s → ∃ n, m ≤ n ∧ ∃ w ∈ ws, ∃ q, Ss ws n (s, w) q
  | 0, s, _, _, _ => by
    obtain ⟨w, hw⟩ := List.exists_mem_of_ne_nil _ g.some_
    exact ⟨0, Nat.le_refl _, w, hw, _, .nil _⟩
  | m + 1, s, hd, h0, ⟨w, hw, t, e, h⟩ => by
    obtain ⟨hdt, ht⟩ := g.next hd h0 hw e
    obtain ⟨n, hn, hr⟩ := Pm.run g m t hdt ht h
    obtain ⟨h1, q, hq⟩ := go_on g h0 ht hw e hr
    exact ⟨_, by omega, w, hw, q, hq⟩
theorem Pm.down : ∀ {n m : Nat} {s : Tx}, m ≤ n → Pm ws n s → Pm ws m s := by
  intro n m s h hp
  induction n with
  | zero => obtain rfl : m = 0 := Nat.le_zero.mp h; exact hp
  | succ n ih =>
    by_cases e : m = n + 1
    · rw [e]; exact hp
    · exact ih (by omega) hp.less
open Classical in
theorem pm_ever (g : Go ws) {fs : List Tx} (hfs : ∀ t, t ∈ fs ↔ Dg ws t) {s : Tx} (hs : s ∈ fs) (h : Pm ws fs.length s) : ∀ n, Pm ws n s := by
  let cnt : Nat → Nat := fun m => (fs.filter fun x => decide (Pm ws m x)).length
  have hst : ∃ m, m ≤ fs.length ∧ ∀ x ∈ fs, Pm ws m x → Pm ws (m + 1) x := by
    refine Classical.byContradiction fun hno => ?_
    have dec : ∀ m, m ≤ fs.length → cnt (m + 1) + 1 ≤ cnt m := fun m hm => by
      have : ∃ x ∈ fs, Pm ws m x ∧ ¬ Pm ws (m + 1) x := Classical.byContradiction fun hn => hno ⟨m, hm, fun x hx hp => Classical.byContradiction fun hq => hn ⟨x, hx, hp, hq⟩⟩
      obtain ⟨x, hx, h1, h2⟩ := this
      exact filter_lt (fun y hy => decide_eq_true (Pm.less (of_decide_eq_true hy))) hx (decide_eq_true h1) (decide_eq_false h2)
    have all : ∀ m, m ≤ fs.length + 1 → cnt m + m ≤ fs.length := by
      intro m
      induction m with
      | zero => intro _; exact List.length_filter_le _ _
      | succ m ih => intro hm; have := ih (by omega); have := dec m (by omega); omega
    have := all (fs.length + 1) (Nat.le_refl _)
    omega
  obtain ⟨m, hm, hst⟩ := hst
  have up : ∀ k, ∀ x ∈ fs, Pm ws (m + k) x → Pm ws (m + k + 1) x := by
    intro k
    induction k with
    | zero => exact hst
    | succ k ih =>
      rintro x hx ⟨w, hw, t, e, hp⟩
      have hd := (hfs x).mp hx
      have h0 : x ≠ [] := fun z => g.single (z ▸ hd)
      exact ⟨w, hw, t, e, ih t ((hfs t).mpr (g.next hd h0 hw e).1) hp⟩
  have hsm : Pm ws m s := h.down hm
  have far : ∀ k, Pm ws (m + k) s := by
    intro k
    induction k with
    | zero => exact hsm
    | succ k ih => exact up k s hs ih
  intro n
  exact (far n).down (by omega)
/-! #### the delay -/
/-- what the delay of a book is -/
def IsDelay (ws : List Tx) : Option Nat → Prop
  | none => ∃ u v, Two' ws u v ∧ Ever ws (u, v)
  | some d => ∃ T, Go ws ∧ Stab ws T ∧ Runs ws T ∧ (∀ u v t, Two' ws u v → restOf u v = some t → T t + 1 ≤ d) ∧ (d = 0 ∨ ∃ u v t, Two' ws u v ∧ restOf u v = some t ∧ d = T t + 1)
theorem delay_dg (hne : ∀ w ∈ ws, w ≠ []) (h : Dg ws []) : IsDelay ws none := by
  obtain ⟨u, v, two, h2⟩ := co_first hne h (.inl rfl)
  exact ⟨u, v, two, .inl h2⟩
theorem delay_wild (g : Go ws) {fs : List Tx} (hfs : ∀ t, t ∈ fs ↔ Dg ws t) (h : ∀ i, i ≤ fs.length → ∃ s ∈ fs, tbl ws i s ≠ tbl ws (i + 1) s) : IsDelay ws none := by
  obtain ⟨s, hs, hne⟩ := h fs.length (Nat.le_refl _)
  have hd := (hfs s).mp hs
  have h0 : s ≠ [] := fun z => g.single (z ▸ hd)
  have hlt : tbl ws fs.length s < tbl ws (fs.length + 1) s := by
    have := tbl_mono (ws := ws) fs.length s
    omega
  have ever := pm_ever g hfs hs (grows g _ s hd h0 hlt)
  obtain ⟨u, v, two, hl⟩ := long_first g hd
  refine ⟨u, v, two, .inr fun N => ?_⟩
  obtain ⟨n, hn, hr⟩ := Pm.run g N s hd h0 (ever N)
  obtain ⟨M, hM, q, hq⟩ := hl n hr
  exact hq.pre (show N ≤ M by omega)
theorem delay_still (g : Go ws) {fs : List Tx} (hfs : ∀ t, t ∈ fs ↔ Dg ws t) {i : Nat} (h : ∀ s ∈ fs, tbl ws i s = tbl ws (i + 1) s) {d : Nat} (h1 : ∀ u v t, Two' ws u v → restOf u v = some t → tbl ws i t + 1 ≤ d) (h2 : d = 0 ∨ ∃ u v t, Two' ws u v ∧ restOf u v = some t ∧ d = tbl ws i t + 1) : IsDelay ws (some d) :=
  ⟨tbl ws i, g, ⟨fun s hd => h s ((hfs s).mpr hd)⟩, fun s hd h0 => tbl_run g i s hd h0, h1, h2⟩
/-- what a search by layers answers -/
def Out' (ws : List Tx) (p : Pr) (most res : Nat) : Prop :=
  (res ≤ most ∧ (∃ q, Ss ws res p q) ∧ (¬ ∃ q, Ss ws (res + 1) p q) ∧ ∀ m q, m ≤ res → Ss ws m p q → ¬ Co q) ∨ (res = most + 1 ∧ ((∃ m q, Ss ws m p q ∧ Co q) ∨ ∃ q, Ss ws (most + 1) p q))
theorem out_ever {p : Pr} {most res : Nat} (h : Out' ws p most res) (e : Ever ws p) : res = most + 1 := by
  rcases h with ⟨h1, ⟨q0, h2⟩, h3, h4⟩ | ⟨h, _⟩
  · exfalso
    rcases e with ⟨n, q, hs, hc⟩ | e
    · by_cases hn : n ≤ res
      · exact h4 n q hn hs hc
      · exact h3 (hs.pre (show res + 1 ≤ n by omega))
    · exact h3 (e (res + 1))
  · exact h
theorem out_still (g : Go ws) {T : Tx → Nat} (h : Stab ws T) (r : Runs ws T) {u v : Tx} (two : Two' ws u v) {most res : Nat} (o : Out' ws (u, v) most res) (hb : tg1 T u v ≤ most) : res = tg1 T u v := by
  rcases o with ⟨h1, ⟨q0, h2⟩, h3, h4⟩ | ⟨h1, ⟨m, q, hs, hc⟩ | ⟨q, hs⟩⟩
  · have a := (pair_max g h two h2).1
    obtain ⟨q, hq⟩ := pair_run g r two
    by_cases c : res < tg1 T u v
    · exact absurd (hq.pre (show res + 1 ≤ _ by omega)) h3
    · omega
  · exact absurd hc (pair_max g h two hs).2
  · have := (pair_max g h two hs).1
    omega
/-- plain: none begins another -/
def Plain (ws : List Tx) : Prop := ∀ u v, Two' ws u v → ¬ v <+: u
theorem plain_rest (h : Plain ws) {u v : Tx} (two : Two' ws u v) : restOf u v = none := by
  cases e : restOf u v with
  | none => rfl
  | some t =>
    rcases restOf_iff.mp e with e | e
    · exact absurd ⟨t, e.symm⟩ (h u v two)
    · exact absurd ⟨t, e.symm⟩ (h v u two.swap)
theorem delay_zero {o : Option Nat} (h : IsDelay ws o) : o = some 0 ↔ Plain ws := by
  cases o with
  | none =>
    refine ⟨(fun e => by cases e), (fun hp => ?_)⟩
    obtain ⟨u, v, two, he⟩ := h
    have er := plain_rest hp two
    rcases he with ⟨n, q, hs, hc⟩ | he
    · exact absurd hc (part_le er hs).2
    · obtain ⟨q, hs⟩ := he (lcp u v + 1)
      have := (part_le er hs).1
      omega
  | some d =>
    obtain ⟨T, g, st, r, h1, h2⟩ := h
    constructor
    · intro e u v two hp
      obtain ⟨t, e2⟩ := hp
      have := h1 u v t two (restOf_iff.mpr (.inl e2.symm))
      cases e
      omega
    · intro hp
      rcases h2 with rfl | ⟨u, v, t, two, e, _⟩
      · rfl
      · rw [plain_rest hp two] at e; cases e
end PM
set_option Elab.async false
set_option linter.all false
set_option maxRecDepth 100000
set_option maxHeartbeats 4000000
set_option autoImplicit false
namespace PM
open PySem PySem.Spec PyProof.Rows L2
theorem fm0 (a : Int) {b : Int} (h : 0 < b) : 0 ≤ a.fmod b := Int.fmod_nonneg_of_pos a h
theorem fm1 (a : Int) {b : Int} (h : 0 < b) : a.fmod b < b := Int.fmod_lt_of_pos a h
theorem big_of {x : Int} (h1 : -(10 ^ 60) < x) (h2 : x < 10 ^ 60) : x.natAbs < 2 ^ 4000 := by
  have h : x.natAbs < 10 ^ 60 := by omega
  exact Nat.lt_of_lt_of_le (Nat.lt_trans h (show 10 ^ 60 < 2 ^ 200 by decide)) (Nat.pow_le_pow_right (by decide) (by decide))
/-- the well: n draws at most so far -/
def Well (n : Nat) (t : T) : Prop := ∃ (gs : List Int) (a c : Int), t = .bx [.fl (gs.map .int), .sh (.int a), .sh (.int c)] ∧ 0 ≤ a ∧ a < 10 ^ 38 + 133 ∧ 0 ≤ c ∧ c ≤ n
theorem Well.mono {n m : Nat} {t : T} (h : Well n t) (l : n ≤ m) : Well m t := by
  obtain ⟨gs, a, c, e, h1, h2, h3, h4⟩ := h
  exact ⟨gs, a, c, e, h1, h2, h3, by omega⟩
theorem sip_spec {n : Nat} {w : T} {many : Int} (h : Well n w) (hn : n < 10 ^ 9) (hm : 0 < many) (hm2 : many < 1000) : wpc m__law_sip 4 [w, .sh (.int many)] (fun t Γ => ∃ r w' Γ', t = .sh (.int r) ∧ 0 ≤ r ∧ r < many ∧ Well (n + 1) w' ∧ Γ = some w' :: Γ') := by
  obtain ⟨gs, a, c, rfl, ha, ha2, hc, hc2⟩ := h
  refine wpc_of ?_
  unfold m__law_sip
  have hm0 : ¬ many = 0 := by omega
  cases gs with
  | cons g gs =>
    simp [start', atI, ixN]
    have hl : many.natAbs.log2 < 9000 := log_lt (Nat.lt_of_lt_of_le (show many.natAbs < 2 ^ 10 by omega) (Nat.pow_le_pow_right (by decide) (by decide))) (by decide)
    refine ⟨hm0, ⟨hm0, hl⟩, ?_⟩
    split
    · simp [fPop, seqIndex?]
      exact ⟨fm0 g hm, fm1 g hm, gs, a, c, rfl, ha, ha2, hc, by omega⟩
    · exact ⟨fm0 g hm, fm1 g hm, g.fdiv many :: gs, a, c, rfl, ha, ha2, hc, by omega⟩
  | nil =>
    simp [start', atI, ixN]
    have hc3 : c < 10 ^ 9 := by omega
    have q1 : (86028121 : Int) * (c + 1) < 10 ^ 18 := by omega
    have q2 : (32452843 : Int) * (c + 1) < 10 ^ 18 := by omega
    have q3 : (32452843 : Int) * (c + 1) * (c + 1) ≤ 10 ^ 18 * 10 ^ 10 := Int.mul_le_mul (by omega) (by omega) (by omega) (by omega)
    have q4 : 0 ≤ (32452843 : Int) * (c + 1) * (c + 1) := Int.mul_nonneg (by omega) (by omega)
    have s0 := fm0 ((a + 86028121 * (c + 1)) ^ 3) (b := 100000000000000000000000000000000000000109) (by decide)
    have s1 := fm1 ((a + 86028121 * (c + 1)) ^ 3) (b := 100000000000000000000000000000000000000109) (by decide)
    generalize ((a + 86028121 * (c + 1)) ^ 3).fmod 100000000000000000000000000000000000000109 = y at s0 s1 ⊢
    generalize hz : (32452843 : Int) * (c + 1) * (c + 1) = z at q3 q4 ⊢
    refine ⟨mulOk_of (big_of (by omega) (by omega)) (big_of (by omega) (by omega)), powOk_of (big_of (by omega) (by omega)), by decide, mulOk_of (big_of (by omega) (by omega)) (big_of (by omega) (by omega)), mulOk_of (big_of (by omega) (by omega)) (big_of (by omega) (by omega)), powOk_of (big_of (by omega) (by omega)), by decide, by decide, by decide, hm0, fm0 _ hm, fm1 _ hm, [], a, c + 1, rfl, ha, ha2, by omega, by omega⟩
/-- what a call of a draw leaves: the caller goes on -/
theorem sip_call {n : Nat} {w : T} {many : Int} {P : T → Sl → Prop} (h : Well n w) (hn : n < 10 ^ 9) (hm : 0 < many) (hm2 : many < 1000) (k : ∀ r w' Γ', 0 ≤ r → r < many → Well (n + 1) w' → P (.sh (.int r)) (some w' :: Γ')) : wpc m__law_sip 4 [w, .sh (.int many)] P :=
  wpc_mono (sip_spec h hn hm hm2) fun t Γ ⟨r, w', Γ', e1, h0, h1, hw, e2⟩ => by rw [e1, e2]; exact k r w' Γ' h0 h1 hw
end PM
set_option Elab.async false
set_option linter.all false
set_option maxRecDepth 100000
set_option maxHeartbeats 4000000
set_option autoImplicit false
namespace PM
open PySem PySem.Spec PyProof.Rows L2
theorem line_eq : line = 16777216 := rfl
theorem atI_nat {α : Type} {xs : List α} {r : Int} (h0 : 0 ≤ r) (h1 : r < xs.length) : ∃ x, atI xs r = some x ∧ x ∈ xs ∧ xs[r.toNat]? = some x := by
  have hl : r.toNat < xs.length := by omega
  refine ⟨xs[r.toNat], ?_, List.getElem_mem hl, List.getElem?_eq_getElem hl⟩
  unfold atI ixN
  rw [if_pos h0, if_pos h1]
  exact List.getElem?_eq_getElem hl
theorem pick_spec {n : Nat} {w : T} {xs : List D} {P : T → Sl → Prop} (h : Well n w) (hn : n < 10 ^ 9) (hx : xs ≠ []) (hl : xs.length < 1000) (k : ∀ d w' Γ', d ∈ xs → Well (n + 1) w' → P (.sh d) (some w' :: Γ')) : wpc m__law_pick 2 [w, .sh (.lst xs)] P := by
  refine wpc_of ?_
  unfold m__law_pick
  have hp : 0 < xs.length := List.length_pos_iff.mpr hx
  simp -implicitDefEqProofs [start']
  refine sip_call h hn (by omega) (by omega) fun r w' Γ' h0 h1 hw => ?_
  obtain ⟨x, e, hm, _⟩ := atI_nat h0 h1
  simp [e]
  exact k x w' _ hm hw
theorem pickT_spec {n : Nat} {w : T} {s : Txt} {P : T → Sl → Prop} (h : Well n w) (hn : n < 10 ^ 9) (hx : s ≠ []) (hl : s.length < 1000) (k : ∀ c w' Γ', c ∈ s → Well (n + 1) w' → P (.sh (.str [c])) (some w' :: Γ')) : wpc m__law_pick 2 [w, .sh (.str s)] P := by
  refine wpc_of ?_
  unfold m__law_pick
  have hp : 0 < s.length := List.length_pos_iff.mpr hx
  have hl2 : s.length ≤ line := by rw [line_eq]; omega
  simp -implicitDefEqProofs [start', hl2]
  refine sip_call h hn (by omega) (by omega) fun r w' Γ' h0 h1 hw => ?_
  obtain ⟨x, e, hm, _⟩ := atI_nat h0 h1
  simp [e]
  exact ⟨hl2, k x w' _ hm hw⟩
/-- letters, strictly rising -/
structure Abc (n : Nat) (s : Txt) : Prop where
  len : s.length = n
  up : s.Pairwise (· < ·)
  az : ∀ c ∈ s, 97 ≤ c ∧ c ≤ 122
theorem flat1 : ∀ z : Txt, (z.map fun c => [c]).flatten = z
  | [] => rfl
  | c :: z => by rw [List.map_cons, List.flatten_cons, flat1 z]; rfl
theorem sort_abc {s : Txt} (hn : s.Nodup) (h : ∀ c ∈ s, 97 ≤ c ∧ c ≤ 122) : Abc s.length ((sortTx (s.map fun c => [c])).flatten) := by
  have p := sortT_perm ltCps (s.map fun c => [c])
  have u : Up ltCps (sortTx (s.map fun c => [c])) := sortT_up ltCps ltc_asym ltc_tr _
  have key : ∀ l : List Txt, l.Perm (s.map fun c => [c]) → Up ltCps l → ∃ z : Txt, l = z.map (fun c => [c]) ∧ z.Perm s := by
    intro l p _
    have : ∀ x ∈ l, ∃ c, x = [c] := fun x hx => by
      obtain ⟨c, _, e⟩ := List.mem_map.mp (p.mem_iff.mp hx)
      exact ⟨c, e.symm⟩
    have : l = (l.map fun x => x.headD 0).map fun c => [c] := by
      rw [List.map_map]
      conv => lhs; rw [← List.map_id l]
      refine List.map_congr_left fun x hx => ?_
      obtain ⟨c, rfl⟩ := this x hx
      rfl
    refine ⟨_, this, ?_⟩
    have q := p.map (fun x : Txt => x.headD 0)
    have e2 : (s.map fun c => [c]).map (fun x : Txt => x.headD 0) = s := by
      rw [List.map_map]
      exact List.map_id _
    rw [e2] at q
    exact q
  obtain ⟨z, e, pz⟩ := key _ p u
  have e : sortTx (s.map fun c => [c]) = z.map fun c => [c] := e
  rw [e] at u ⊢
  have ef : (z.map fun c => [c]).flatten = z := flat1 z
  rw [ef]
  refine ⟨pz.length_eq, ?_, fun c hc => h c (pz.mem_iff.mp hc)⟩
  have nz : z.Nodup := pz.nodup_iff.mpr hn
  have u2 : z.Pairwise fun a b => ltCps [b] [a] = false := by
    have := List.pairwise_map.mp u
    exact this
  refine (u2.and nz).imp fun {a b} q => ?_
  have q1 := q.1
  simp [ltCps] at q1
  have := q.2
  omega
theorem perm_sum {l m : List Nat} (p : l.Perm m) : l.sum = m.sum := by
  induction p with
  | nil => rfl
  | cons x _ ih => rw [List.sum_cons, List.sum_cons, ih]
  | swap x y l => simp only [List.sum_cons]; omega
  | trans _ _ h1 h2 => exact h1.trans h2
def IAl (n many : Nat) (pool : Txt) (i : Nat) (Γ : Sl) : Prop := ∃ w' q f x y, Γ = [some w', some (.sh (.int many)), some (.sh (.str q)), some (.sh (.str f)), x, y] ∧ Well (n + 1 + i) w' ∧ q.length + f.length = pool.length ∧ f.length = i ∧ (f ++ q).Perm pool
theorem alphabet_spec {n : Nat} {w : T} {many : Nat} {P : T → Sl → Prop} (h : Well n w) (hn : n + 20 < 10 ^ 9) (hm : many ≤ 6) (k : ∀ s w' Γ', Abc many s → Well (n + 10) w' → P (.sh (.str s)) (some w' :: Γ')) : wpc m__law_alphabet 6 [w, .sh (.int many)] P := by
  refine wpc_of ?_
  unfold m__law_alphabet
  have h62 : small62 (many : Int) := by unfold small62; omega
  simp -implicitDefEqProofs [start', rng1_int _ h62]
  refine ⟨by decide, pick_spec h (by omega) (List.cons_ne_nil _ _) (show 3 < 1000 by decide) fun d w1 Γ1 hd hw => ?_⟩
  have hd : ∃ pool : Txt, d = .str pool ∧ pool.Nodup ∧ (∀ c ∈ pool, 97 ≤ c ∧ c ≤ 122) ∧ 7 ≤ pool.length ∧ pool.length ≤ 26 := by
    simp at hd
    rcases hd with rfl | rfl | rfl <;> exact ⟨_, rfl, by decide, by decide, by decide, by decide⟩
  obtain ⟨pool, rfl, hpn, hpz, hp7, hp26⟩ := hd
  refine for_spec _ (IAl n many pool) _ ?_ ?_ ?_
  · exact ⟨w1, pool, [], _, _, rfl, hw, by simp, rfl, by simp⟩
  · rintro i d Γ hi ⟨w', q, f, x, y, rfl, hw', hl, hf, hp⟩
    obtain ⟨rfl, hi2⟩ := ints_get hi
    have hq : 1 ≤ q.length := by omega
    have hql : q.length ≤ line := by rw [line_eq]; omega
    refine ⟨_, rfl, ?_⟩
    simp -implicitDefEqProofs [hql]
    refine sip_call hw' (by omega) (by omega) (by omega) fun r w2 Γ2 h0 h1 hw2 => ?_
    obtain ⟨c, e, hc, e2⟩ := atI_nat h0 h1
    simp -implicitDefEqProofs [hql, e]
    have hr : r.toNat < q.length := by omega
    have hr2 : (r + 1).toNat = r.toNat + 1 := by omega
    have hrl : r.toNat ≤ q.length := by omega
    have ec : q = q.take r.toNat ++ c :: q.drop (r.toNat + 1) := by
      obtain ⟨_, e3⟩ := List.getElem?_eq_some_iff.mp e2
      rw [← e3, List.getElem_cons_drop, List.take_append_drop]
    simp -implicitDefEqProofs [hql, cut_to q h0, cut_from q (show 0 ≤ r + 1 by omega), hr2, Nat.min_eq_left hrl]
    refine ⟨?_, ?_, w2, _, _, _, _, rfl, hw2.mono (by omega), ?_, ?_, ?_⟩
    · rw [line_eq]; omega
    · rw [line_eq]; omega
    · simp; omega
    · simp [hf]
    refine List.Perm.trans ?_ hp
    conv => rhs; rw [ec]
    rw [List.append_assoc]
    refine List.Perm.append_left f ?_
    rw [List.singleton_append]
    exact List.perm_middle.symm
  · rintro Γ ⟨w', q, f, x, y, rfl, hw', hl, hf, hp⟩
    rw [ints_len] at hf hw'
    have hnd : (f ++ q).Nodup := hp.nodup_iff.mpr hpn
    have hfl : f.length ≤ line := by rw [line_eq]; omega
    have ha := sort_abc (List.nodup_append.mp hnd).1 fun c hc => hpz c (hp.mem_iff.mp (List.mem_append_left _ hc))
    have hs : ((sortTx (f.map fun c => [c])).map (·.length)).sum = f.length := by
      rw [perm_sum ((sortT_perm ltCps (f.map fun c => [c])).map _), List.map_map, show (List.length ∘ fun c : Nat => [c]) = fun _ => 1 from rfl]
      clear hl hf hp hnd hfl ha
      induction f with
      | nil => rfl
      | cons a b ih => rw [List.map_cons, List.sum_cons, ih, List.length_cons]; omega
    simp -implicitDefEqProofs [hfl, hs, joinT_empty]
    rw [hf] at ha
    exact k _ _ _ ha (hw'.mono (by omega))
end PM
set_option Elab.async false
set_option linter.all false
set_option maxRecDepth 100000
set_option maxHeartbeats 4000000
set_option autoImplicit false
namespace PM
open PySem PySem.Spec PyProof.Rows L2
theorem sum1 : ∀ s : Txt, ((s.map fun c => [c]).map List.length).sum = s.length
  | [] => rfl
  | c :: s => by
    rw [List.map_cons, List.map_cons, List.sum_cons, sum1 s]
    show 1 + s.length = s.length + 1
    omega
theorem fPop_nat {ds : List D} {r : Nat} {d : D} (h : ds[r]? = some d) (h2 : ds.length < 10 ^ 9) : fPop ds [.int r] = some (ds.eraseIdx r, d) := by
  obtain ⟨hl, _⟩ := List.getElem?_eq_some_iff.mp h
  have hs : seqIndex? (r : Int) ds.length = some r := by
    unfold seqIndex?
    rw [if_neg (by omega : ¬ (r : Int) < 0)]
    simp [hl]
  show (if (r : Int).natAbs < 9223372036854775808 then (seqIndex? (r : Int) ds.length).bind fun j => (ds[j]?).map fun d => (ds.eraseIdx j, d) else none) = _
  rw [if_pos (by omega), hs]
  show (ds[r]?).map _ = _
  rw [h]
  rfl
theorem erase_perm {α : Type} : ∀ {l : List α} {r : Nat} {c : α}, l[r]? = some c → ([c] ++ l.eraseIdx r).Perm l
  | [], r, c, h => by cases h
  | a :: l, 0, c, h => by cases h; exact .refl _
  | a :: l, r + 1, c, h => by
    have ih := erase_perm (l := l) (r := r) (c := c) (by simpa using h)
    exact (List.Perm.swap a c _).trans (ih.cons a)
@[simp] theorem fApp_one (ds : List D) (d : D) : fApp ds [d] = if ds.length < line then some (ds ++ [d], .non) else none := rfl
theorem dJoin_chars (s : Txt) : dJoin (.str []) (.lst (s.map (D.str ∘ fun c => [c]))) = if s.length ≤ line then some (.sh (.str s)) else none := by
  have h := dJoin_lst [] (s.map fun c => [c])
  rw [List.map_map] at h
  rw [h]
  rw [show ((s.map fun c => [c]).map (fun x : Txt => x.length)).sum = s.length from sum1 s, joinT_empty, flat1]
  rfl
def Wd' (abc : Txt) (lo hi : Nat) (w : Txt) : Prop := lo ≤ w.length ∧ w.length ≤ hi ∧ ∀ c ∈ w, c ∈ abc
def IWo (n : Nat) (abc : Txt) (a b : Nat) (i : Nat) (acc : List D) (Γ : Sl) : Prop := ∃ w' x, ∃ s : Txt, Γ = [some w', some (.sh (.str abc)), some (.sh (.int a)), some (.sh (.int b)), x] ∧ Well (n + 1 + i) w' ∧ acc = (s.map fun c => [c]).map .str ∧ s.length = i ∧ ∀ c ∈ s, c ∈ abc
theorem word_spec {n : Nat} {w : T} {abc : Txt} {a b : Nat} {P : T → Sl → Prop} (h : Well n w) (hn : n + 20 < 10 ^ 9) (ha : abc ≠ []) (hl : abc.length < 100) (hab : a ≤ b) (hb : b ≤ 10) (k : ∀ s w' Γ', Wd' abc a b s → Well (n + 11) w' → P (.sh (.str s)) (some w' :: Γ')) : wpc m__law_word 5 [w, .sh (.str abc), .sh (.int a), .sh (.int b)] P := by
  refine wpc_of ?_
  unfold m__law_word
  simp -implicitDefEqProofs [start']
  refine sip_call h (by omega) (by omega) (by omega) fun r w1 Γ1 h0 h1 hw => ?_
  have h62 : small62 ((a : Int) + r) := by unfold small62; omega
  obtain ⟨r, rfl⟩ := Int.eq_ofNat_of_zero_le h0
  have hr : ((a : Int) + (r : Int)).toNat = a + r := by omega
  simp -implicitDefEqProofs [rng1_int _ h62, hr]
  refine lc0 (IWo n abc a b) ?_ ?_ ?_
  · exact ⟨w1, none, [], rfl, hw, rfl, rfl, fun c hc => by cases hc⟩
  · rintro i d acc Γ hi ⟨w', x, s, rfl, hw', rfl, hs, hc⟩
    obtain ⟨rfl, hi2⟩ := ints_get hi
    refine ⟨_, rfl, ?_⟩
    simp -implicitDefEqProofs [wipeS]
    refine pickT_spec hw' (by omega) ha (by omega) fun c w2 Γ2 hcm hw2 => ?_
    simp -implicitDefEqProofs
    refine ⟨w2, _, s ++ [c], rfl, hw2.mono (by omega), by simp, by simp [hs], fun d hd => ?_⟩
    rcases List.mem_append.mp hd with h | h
    · exact hc d h
    · rw [List.mem_singleton.mp h]; exact hcm
  · rintro acc Γ ⟨w', x, s, rfl, hw', rfl, hs, hc⟩
    rw [ints_len] at hs hw'
    have hl : s.length ≤ line := by rw [line_eq]; omega
    simp -implicitDefEqProofs [dJoin_chars, hl, wipeS]
    exact k _ _ _ ⟨by omega, by omega, hc⟩ (hw'.mono (by omega))
/-- a row of words -/
structure Row (abc : Txt) (cap most : Nat) (row : List Txt) : Prop where
  ne : row ≠ []
  len : row.length ≤ cap
  wd : ∀ w ∈ row, Wd' abc 1 most w
def IMi (n : Nat) (xs : List D) (i : Nat) (Γ : Sl) : Prop := ∃ w', ∃ l f : List D, ∃ x, Γ = [some w', some (.sh (.lst xs)), some (.fl l), some (.fl f), x] ∧ Well (n + i) w' ∧ f.length = i ∧ (f ++ l).Perm xs
theorem mixed_spec {n : Nat} {w : T} {xs : List D} {P : T → Sl → Prop} (h : Well n w) (hn : n + 20 < 10 ^ 9) (hl : xs.length ≤ 20) (k : ∀ ys w' Γ', ys.Perm xs → Well (n + 20) w' → P (.fl ys) (some w' :: Γ')) : wpc m__law_mixed 5 [w, .sh (.lst xs)] P := by
  refine wpc_of ?_
  unfold m__law_mixed
  have h62 : small62 (xs.length : Int) := by unfold small62; omega
  simp -implicitDefEqProofs [start', rng1_int _ h62, dList]
  refine for_spec _ (IMi n xs) _ ?_ ?_ ?_
  · exact ⟨w, xs, [], _, rfl, h, rfl, .refl _⟩
  · rintro i d Γ hi ⟨w', l, f, x, rfl, hw', hf, hp⟩
    obtain ⟨rfl, hi2⟩ := ints_get hi
    have hpl := hp.length_eq
    rw [List.length_append] at hpl
    refine ⟨_, rfl, ?_⟩
    simp -implicitDefEqProofs
    refine sip_call hw' (by omega) (by omega) (by omega) fun r w1 Γ1 h0 h1 hw => ?_
    obtain ⟨c, e, hc, e2⟩ := atI_nat h0 h1
    obtain ⟨r, rfl⟩ := Int.eq_ofNat_of_zero_le h0
    have hrl : r < l.length := by omega
    have e2 : l[r]? = some c := e2
    have hfl : f.length < line := by rw [line_eq]; omega
    simp -implicitDefEqProofs [fPop_nat e2 (show l.length < 10 ^ 9 by omega), hfl]
    refine ⟨w1, _, _, _, rfl, hw.mono (by omega), by simp [hf], ?_⟩
    refine List.Perm.trans ?_ hp
    rw [List.append_assoc]
    exact List.Perm.append_left f (erase_perm e2)
  · rintro Γ ⟨w', l, f, x, rfl, hw', hf, hp⟩
    rw [ints_len] at hf hw'
    have hpl := hp.length_eq
    rw [List.length_append] at hpl
    have : l = [] := List.length_eq_zero_iff.mp (by omega)
    subst this
    rw [List.append_nil] at hp
    simp -implicitDefEqProofs
    exact k _ _ _ hp (hw'.mono (by omega))
end PM
set_option Elab.async false
set_option linter.all false
set_option maxRecDepth 100000
set_option maxHeartbeats 4000000
set_option autoImplicit false
namespace PM
open PySem PySem.Spec PyProof.Rows L2
@[simp] theorem its_str (s : Txt) : (D.str s).its = some (signs s) := rfl
@[simp] theorem its_lst (s : List D) : (D.lst s).its = some s := rfl
theorem signs_get {s : Txt} {i : Nat} {d : D} (h : (signs s)[i]? = some d) : ∃ c, d = .str [c] ∧ s[i]? = some c := by
  unfold signs at h
  rw [List.getElem?_map] at h
  obtain ⟨c, e, rfl⟩ := Option.map_eq_some_iff.mp h
  exact ⟨c, rfl, e⟩
theorem Wd'.le {abc w : Txt} {a b c : Nat} (h : Wd' abc a b w) (l : b ≤ c) : Wd' abc a c w := ⟨h.1, Nat.le_trans h.2.1 l, h.2.2⟩
theorem map_of_mem {ws : List Txt} {d : D} (h : d ∈ ws.map D.str) : ∃ w ∈ ws, d = .str w := by
  obtain ⟨w, hw, e⟩ := List.mem_map.mp h
  exact ⟨w, hw, e.symm⟩
theorem atI_map {ws : List Txt} {r : Int} (h0 : 0 ≤ r) (h1 : r < ws.length) : ∃ u, atI (ws.map D.str) r = some (.str u) ∧ u ∈ ws ∧ ws[r.toNat]? = some u := by
  obtain ⟨x, e, hm, e2⟩ := atI_nat (xs := ws.map D.str) h0 (by rw [List.length_map]; exact h1)
  rw [List.getElem?_map] at e2
  obtain ⟨u, e3, rfl⟩ := Option.map_eq_some_iff.mp e2
  exact ⟨u, e, List.mem_of_getElem? e3, e3⟩
/-- a permuted list of texts is one -/
theorem perm_strs {ws : List Txt} {ys : List D} (p : ys.Perm (ws.map D.str)) : ∃ us : List Txt, ys = us.map D.str ∧ us.Perm ws := by
  let g : D → Txt := fun d => match d with | .str s => s | _ => []
  have h : ∀ d ∈ ys, d = .str (g d) := fun d hd => by
    obtain ⟨w, _, rfl⟩ := map_of_mem (p.mem_iff.mp hd)
    rfl
  refine ⟨ys.map g, ?_, ?_⟩
  · rw [List.map_map]
    conv => lhs; rw [← List.map_id ys]
    exact List.map_congr_left fun d hd => h d hd
  · have q := p.map g
    rw [List.map_map] at q
    have : ws.map (g ∘ D.str) = ws := List.map_id' ws
    rw [this] at q
    exact q
def ILe (n : Nat) (abc : Txt) (cap most : Nat) (i : Nat) (Γ : Sl) : Prop := ∃ w', ∃ ws : List Txt, ∃ x y z, Γ = [some w', some (.sh (.str abc)), some (.sh (.int cap)), some (.sh (.int most)), some (.fl (ws.map .str)), x, y, z] ∧ Well (n + 1 + i) w' ∧ Row abc (cap + 1) most ws
def ILc (w' : T) (abc : Txt) (cap most : Nat) (ws : List Txt) (x y : Option T) (u : Txt) (i : Nat) (acc : List D) (Γ : Sl) : Prop := ∃ z, Γ = [some w', some (.sh (.str abc)), some (.sh (.int cap)), some (.sh (.int most)), some (.fl (ws.map .str)), x, y, z] ∧ acc = ((abc.take i).map fun c => u ++ [c]).map .str
theorem leaves_spec {n : Nat} {w : T} {abc : Txt} {cap most : Nat} {P : T → Sl → Prop} (h : Well n w) (hn : n + 100 < 10 ^ 9) (ha0 : abc ≠ []) (ha : abc.length ≤ 3) (hc : 2 ≤ cap) (hc2 : cap ≤ 6) (hm : 1 ≤ most) (hm2 : most ≤ 5)
    (k : ∀ ws w' Γ', Row abc cap most ws → Well (n + 30) w' → P (.fl (ws.map .str)) (some w' :: Γ')) : wpc m__law_leaves 8 [w, .sh (.str abc), .sh (.int cap), .sh (.int most)] P := by
  refine wpc_of ?_
  unfold m__law_leaves
  have hl : abc.length ≤ line := by rw [line_eq]; omega
  simp -implicitDefEqProofs [start', dList, hl]
  refine sip_call h (by omega) (by decide) (by decide) fun r w1 Γ1 h0 h1 hw => ?_
  have h62 : small62 r := by unfold small62; omega
  simp -implicitDefEqProofs [rng1_int _ h62]
  refine for_spec _ (ILe n abc cap most) _ ?_ ?_ ?_
  · refine ⟨w1, abc.map (fun c => [c]), none, none, none, by simp [signs], hw, ?_, by simp; omega, fun w hw => ?_⟩
    · simpa using ha0
    · obtain ⟨c, hc, rfl⟩ := List.mem_map.mp hw
      exact ⟨by simp, by simpa using hm, fun d hd => by rw [List.mem_singleton.mp hd]; exact hc⟩
  · rintro i d Γ hi ⟨w', ws, x, y, z, rfl, hw', hr⟩
    obtain ⟨rfl, hi2⟩ := ints_get hi
    have hp : 0 < ws.length := List.length_pos_iff.mpr hr.ne
    have hrl := hr.len
    refine ⟨_, rfl, ?_⟩
    simp -implicitDefEqProofs
    refine sip_call hw' (by omega) (by omega) (by omega) fun r w2 Γ2 h0 h1 hw2 => ?_
    obtain ⟨u, e, hu, e2⟩ := atI_map h0 h1
    obtain ⟨hu1, hu2, hu3⟩ := hr.wd u hu
    have hul : u.length ≤ line := by rw [line_eq]; omega
    simp -implicitDefEqProofs [e, hul, hl]
    split
    · rename_i hlt
      split
      · rename_i hle
        refine lc0 (ILc w2 abc cap most ws (some (T.sh (D.int ↑i))) (some (T.sh (D.int r))) u) ⟨z, rfl, by simp⟩ ?_ ?_
        · rintro j d acc Γ hj ⟨z2, rfl, rfl⟩
          obtain ⟨c, rfl, hjc⟩ := signs_get hj
          refine ⟨_, rfl, ?_⟩
          have hu6 : u.length + 1 ≤ line := by rw [line_eq]; omega
          simp -implicitDefEqProofs [wipeS, e, hu6]
          refine ⟨_, rfl, ?_⟩
          rw [List.take_add_one, hjc]
          simp
        · rintro acc Γ ⟨z2, rfl, rfl⟩
          have hsl : (signs abc).length = abc.length := by simp [signs]
          have hr2 : (r + 1).toNat = r.toNat + 1 := by omega
          have hw7 : ws.length ≤ 7 := by omega
          simp -implicitDefEqProofs [wipeS, hsl, cut_to _ h0, cut_from _ (show 0 ≤ r + 1 by omega), hr2]
          refine ⟨by rw [line_eq]; omega, by rw [line_eq]; omega, by rw [line_eq]; omega, ?_⟩
          have e9 : List.take r.toNat (List.map D.str ws) ++ (List.map (D.str ∘ fun c => u ++ [c]) abc ++ List.drop (r.toNat + 1) (List.map D.str ws)) = (ws.take r.toNat ++ (abc.map fun c => u ++ [c]) ++ ws.drop (r.toNat + 1)).map D.str := by simp
          rw [e9]
          refine ⟨w2, _, _, _, _, rfl, hw2.mono (by omega), ?_, ?_, ?_⟩
          · simp [ha0]
          · simp; omega
          · intro v hv
            rcases List.mem_append.mp hv with hv | hv
            · rcases List.mem_append.mp hv with hv | hv
              · exact hr.wd v (List.mem_of_mem_take hv)
              · obtain ⟨c, hc, rfl⟩ := List.mem_map.mp hv
                refine ⟨by simp, by simp; omega, fun d hd => ?_⟩
                rcases List.mem_append.mp hd with hd | hd
                · exact hu3 d hd
                · rw [List.mem_singleton.mp hd]; exact hc
            · exact hr.wd v (List.mem_of_mem_drop hv)
      · exact ⟨w2, ws, _, _, _, rfl, hw2.mono (by omega), hr⟩
    · exact ⟨w2, ws, _, _, _, rfl, hw2.mono (by omega), hr⟩
  · rintro Γ ⟨w', ws, x, y, z, rfl, hw', hr⟩
    rw [ints_len] at hw'
    have hrl := hr.len
    simp -implicitDefEqProofs
    refine mixed_spec hw' (by omega) (by simp; omega) fun ys w2 Γ2 hp hw2 => ?_
    obtain ⟨us, rfl, hq⟩ := perm_strs hp
    have hru : Row abc cap most (us.take cap) := by
      refine ⟨?_, by simp; omega, fun v hv => hr.wd v (hq.mem_iff.mp (List.mem_of_mem_take hv))⟩
      have : 0 < us.length := by rw [hq.length_eq]; exact List.length_pos_iff.mpr hr.ne
      simp
      exact ⟨by omega, List.length_pos_iff.mp this⟩
    simp -implicitDefEqProofs [cut_to _ (show (0 : Int) ≤ cap by omega)]
    have e1 : List.take cap (List.map D.str us) = (us.take cap).map D.str := by simp
    have e2 : min cap us.length = (us.take cap).length := by simp
    rw [e1, e2]
    generalize us.take cap = vs at hru
    have hwn : n + 1 + r.toNat + 20 ≤ n + 26 := by omega
    split
    · rename_i hlt
      refine sip_call hw2 (by omega) (by decide) (by decide) fun r2 w3 Γ3 q0 q1 hw3 => ?_
      simp -implicitDefEqProofs [cut_from _ (show (0 : Int) ≤ 1 by decide)]
      split
      · have hv2 : 1 < vs.length := by omega
        have hv3 := hru.len
        have := k (vs.drop 1) w3 [some (T.sh (D.str abc)), some (T.sh (D.int ↑cap)), some (T.sh (D.int ↑most)), some (T.fl (List.map D.str vs)), x, y, z] ⟨fun e0 => by have := List.drop_eq_nil_iff.mp e0; omega, by rw [List.length_drop]; omega, fun v hv => hru.wd v (List.mem_of_mem_drop hv)⟩ (hw3.mono (by omega))
        simpa using this
      · exact k vs _ _ hru (hw3.mono (by omega))
    · exact k vs _ _ hru (hw2.mono (by omega))
@[simp] theorem dRev_str (s : Txt) : dRev (.str s) = if s.length ≤ line then some (.sh (.str s.reverse)) else none := rfl
theorem eqV_ii (a b : Int) : eqV (V.int a) (V.int b) = (a == b) := rfl
theorem dIn_i2 (r a b : Int) : dIn (.int r) (.tup [.int a, .int b]) = some (decide (r = a) || decide (r = b)) := by
  simp [dIn, D.fv, D.seq?, D.fvs, inV, eqV_ii]
  rw [Bool.eq_iff_iff]
  simp only [Bool.or_eq_true, decide_eq_true_iff, beq_iff_eq]
  rw [eq_comm (a := a), eq_comm (a := b)]
theorem revs_row {abc : Txt} {cap most : Nat} {ws : List Txt} (h : Row abc cap most ws) : Row abc cap most (ws.map List.reverse) := by
  refine ⟨by simpa using h.ne, by simpa using h.len, fun v hv => ?_⟩
  obtain ⟨u, hu, rfl⟩ := List.mem_map.mp hv
  obtain ⟨h1, h2, h3⟩ := h.wd u hu
  exact ⟨by simpa using h1, by simpa using h2, fun c hc => h3 c (by simpa using hc)⟩
theorem strs_get {ws : List Txt} {i : Nat} {d : D} (h : (ws.map D.str)[i]? = some d) : ∃ u, d = .str u ∧ ws[i]? = some u := by
  rw [List.getElem?_map] at h
  obtain ⟨c, e, rfl⟩ := Option.map_eq_some_iff.mp h
  exact ⟨c, rfl, e⟩
def IRv (w' : T) (ws : List Txt) (a1 a2 a3 a4 a5 : Option T) (i : Nat) (acc : List D) (Γ : Sl) : Prop := ∃ z, Γ = [some w', a1, a2, a3, a4, a5, none, none, none, none, z, none, none, none] ∧ acc = ((ws.take i).map List.reverse).map .str
def IPi (n : Nat) (abc : Txt) (z b : Nat) (a2 a3 a4 a6 : Option T) (i : Nat) (acc : List D) (Γ : Sl) : Prop := ∃ w' x, ∃ ps : List Txt, Γ = [some w', some (.sh (.str abc)), a2, a3, a4, none, a6, some (.sh (.int z)), none, none, none, x, none, none] ∧ Well (n + 3 + 11 * i) w' ∧ acc = ps.map .str ∧ ps.length = i ∧ ∀ u ∈ ps, Wd' abc 1 b u
def IRw (n q : Nat) (abc : Txt) (ps : List Txt) (a2 a3 a4 a6 a7 : Option T) (i : Nat) (acc : List D) (Γ : Sl) : Prop := ∃ w' t x y, ∃ rs : List (List Txt), Γ = [some w', some (.sh (.str abc)), a2, a3, a4, none, a6, a7, some t, none, none, x, y, none] ∧ t.d? = some (.lst (ps.map .str)) ∧ Well (n + 30 + 6 * i) w' ∧ acc = rs.map (fun ws => .lst (ws.map .str)) ∧ rs.length = i ∧ ∀ ws ∈ rs, ws ≠ [] ∧ ws.length ≤ q ∧ ∀ u ∈ ws, u ∈ ps
def IRi (n : Nat) (abc : Txt) (ps : List Txt) (a2 a3 a4 a6 a7 x : Option T) (i : Nat) (acc : List D) (Γ : Sl) : Prop := ∃ w' t y, ∃ ws : List Txt, Γ = [some w', some (.sh (.str abc)), a2, a3, a4, none, a6, a7, some t, none, none, x, y, none] ∧ t.d? = some (.lst (ps.map .str)) ∧ Well (n + i) w' ∧ acc = ws.map .str ∧ ws.length = i ∧ ∀ u ∈ ws, u ∈ ps
def IJn (w' : T) (rs : List (List Txt)) (a1 a2 a3 a4 a6 a7 a8 a9 a12 : Option T) (i : Nat) (acc : List D) (Γ : Sl) : Prop := ∃ x, Γ = [some w', a1, a2, a3, a4, none, a6, a7, a8, a9, none, none, a12, x] ∧ acc = ((rs.take i).map List.flatten).map .str
theorem cut_map {ps : List Txt} (lo hi : Option Int) : ∃ cs : List Txt, cutD (ps.map D.str) lo hi = cs.map D.str ∧ cs.length ≤ ps.length ∧ ∀ u ∈ cs, u ∈ ps := by
  refine ⟨cutD ps lo hi, ?_, ?_, ?_⟩
  · unfold cutD
    rw [List.map_take, List.map_drop, List.length_map]
  · unfold cutD
    rw [List.length_take, List.length_drop]
    omega
  · intro u hu
    unfold cutD at hu
    exact List.mem_of_mem_drop (List.mem_of_mem_take hu)
theorem words_spec {n : Nat} {w : T} {abc : Txt} {cap most : Nat} {P : T → Sl → Prop} (h : Well n w) (hn : n + 1000 < 10 ^ 9) (ha0 : abc ≠ []) (ha : abc.length ≤ 3) (hc : 2 ≤ cap) (hc2 : cap ≤ 6) (hm : 2 ≤ most) (hm2 : most ≤ 5)
    (k : ∀ ws w' Γ', Row abc cap most ws → Well (n + 200) w' → P (.fl (ws.map .str)) (some w' :: Γ')) : wpc m__law_words 14 [w, .sh (.str abc), .sh (.int cap), .sh (.int most)] P := by
  refine wpc_of ?_
  unfold m__law_words
  have hl : abc.length ≤ line := by rw [line_eq]; omega
  simp -implicitDefEqProofs [start', hl]
  refine sip_call h (by omega) (by decide) (by decide) fun r w1 Γ1 h0 h1 hw => ?_
  simp -implicitDefEqProofs [dIn_i2]
  refine ⟨by rw [line_eq]; omega, ?_⟩
  split
  · rename_i hr
    refine leaves_spec hw (by omega) ha0 ha hc hc2 (by omega) hm2 fun ws w2 Γ2 hrow hw2 => ?_
    simp -implicitDefEqProofs
    split
    · exact k ws _ _ hrow (hw2.mono (by omega))
    · refine lc0 (IRv w2 ws _ _ _ _ _) ⟨_, rfl, rfl⟩ ?_ ?_
      · rintro i d acc Γ hi ⟨z, rfl, rfl⟩
        obtain ⟨u, rfl, hu⟩ := strs_get hi
        have hul : u.length ≤ line := by
          have := (hrow.wd u (List.mem_of_getElem? hu)).2.1
          rw [line_eq]; omega
        refine ⟨_, rfl, ?_⟩
        simp -implicitDefEqProofs [wipeS, hul]
        refine ⟨_, rfl, ?_⟩
        rw [List.take_add_one, hu]
        simp
      · rintro acc Γ ⟨z, rfl, rfl⟩
        have hwl := hrow.len
        simp only [List.length_map, List.take_length]
        refine ⟨by rw [line_eq]; omega, k _ _ _ (revs_row hrow) (hw2.mono (by omega))⟩
  · rename_i hr
    refine sip_call hw (by omega) (by omega) (by omega) fun r2 w2 Γ2 q0 q1 hw2 => ?_
    simp -implicitDefEqProofs [dIn_i2]
    refine ⟨by rw [line_eq]; omega, ?_⟩
    split
    · rename_i hr3
      refine sip_call hw2 (by omega) (by omega) (by omega) fun r3 w3 Γ3 p0 p1 hw3 => ?_
      obtain ⟨z, hz, hz1, hz2⟩ : ∃ z : Nat, (1 + r3 : Int) = z ∧ 1 ≤ z ∧ z ≤ 2 := ⟨(1 + r3).toNat, by omega, by omega, by omega⟩
      have h62 : small62 (r - 2) := by unfold small62; omega
      simp -implicitDefEqProofs [hz, rng1_int _ h62]
      refine lc0 (IPi n abc z z _ _ _ _) ⟨w3, none, [], rfl, hw3, rfl, rfl, fun u hu => by cases hu⟩ ?_ ?_
      · rintro i d acc Γ hi ⟨w', x, ps, rfl, hw', rfl, hps, hpw⟩
        obtain ⟨rfl, hi2⟩ := ints_get hi
        refine ⟨_, rfl, ?_⟩
        simp -implicitDefEqProofs [wipeS]
        refine word_spec (a := 1) hw' (by omega) ha0 (by omega) hz1 (by omega) fun s w4 Γ4 hs hw4 => ?_
        simp -implicitDefEqProofs
        refine ⟨w4, _, ps ++ [s], rfl, hw4.mono (by omega), by simp, by simp [hps], fun u hu => ?_⟩
        rcases List.mem_append.mp hu with hu | hu
        · exact hpw u hu
        · rw [List.mem_singleton.mp hu]; exact hs
      rintro acc Γ ⟨w4, x, ps, rfl, hw4, rfl, hps, hpw⟩
      rw [ints_len] at hps hw4
      have hpn : ps ≠ [] := by
        intro e; rw [e] at hps; simp at hps; omega
      have hpl : ps.length ≤ 2 := by omega
      have h62 : small62 (1 + r2) := by unfold small62; omega
      simp -implicitDefEqProofs [wipeS, rng1_int _ h62]
      refine ⟨by rw [line_eq]; omega, ?_⟩
      obtain ⟨q, hq⟩ : ∃ q, most / z = q := ⟨_, rfl⟩
      have hzd : ((most : Int).fdiv (z : Int)) = (q : Int) := by
        rw [Int.fdiv_eq_ediv_of_nonneg _ (by omega), ← hq]; rfl
      have hzl : z.log2 < 9000 := log_lt (Nat.lt_of_lt_of_le (show z < 2 ^ 10 by omega) (Nat.pow_le_pow_right (by decide) (by decide))) (by decide)
      have hz0' : ¬ z = 0 := by omega
      have hq5 : q ≤ 5 := hq ▸ Nat.le_trans (Nat.div_le_self _ _) hm2
      have hq1 : 1 ≤ q := hq ▸ (Nat.one_le_div_iff (by omega)).mpr (by omega)
      have hqz : q * z ≤ most := hq ▸ Nat.div_mul_le_self _ _
      refine lc0 (IRw n q abc ps _ _ _ _ _) ⟨w4, _, none, none, [], rfl, rfl, hw4.mono (by omega), rfl, rfl, fun u hu => by cases hu⟩ ?_ ?_
      · rintro i d acc Γ hi ⟨w', t, x, y, rs, rfl, ht, hw', rfl, hrs, hrw⟩
        obtain ⟨rfl, hi2⟩ := ints_get hi
        refine ⟨_, rfl, ?_⟩
        simp -implicitDefEqProofs [wipeS, hzd, hzl, hz0']
        refine sip_call hw' (by omega) (by omega) (by omega) fun r4 w5 Γ5 s0 s1 hw5 => ?_
        have h62 : small62 (1 + r4) := by unfold small62; omega
        simp -implicitDefEqProofs [rng1_int _ h62]
        refine lc0 (IRi (n + 30 + 6 * i + 1) abc ps _ _ _ _ _ _) ⟨w5, t, y, [], rfl, ht, hw5, rfl, rfl, fun u hu => by cases hu⟩ ?_ ?_
        · rintro j d acc Γ hj ⟨w', t, y, ws, rfl, ht, hw', rfl, hws, hwp⟩
          obtain ⟨rfl, hj2⟩ := ints_get hj
          refine ⟨_, rfl, ?_⟩
          simp -implicitDefEqProofs [wipeS, ht]
          refine pick_spec hw' (by omega) (by simpa using hpn) (by rw [List.length_map]; omega) fun d w6 Γ6 hd hw6 => ?_
          obtain ⟨u, hu, rfl⟩ := map_of_mem hd
          simp -implicitDefEqProofs
          refine ⟨w6, _, _, ws ++ [u], rfl, rfl, hw6, by simp, by simp [hws], fun v hv => ?_⟩
          rcases List.mem_append.mp hv with hv | hv
          · exact hwp v hv
          · rw [List.mem_singleton.mp hv]; exact hu
        · rintro acc Γ ⟨w', t, y, ws, rfl, ht, hw', rfl, hws, hwp⟩
          rw [ints_len] at hws hw'
          refine ⟨by rw [List.length_map, line_eq]; omega, ?_⟩
          refine ⟨w', t, _, _, rs ++ [ws], rfl, ht, hw'.mono (by omega), by simp, by simp [hrs], fun v hv => ?_⟩
          rcases List.mem_append.mp hv with hv | hv
          · exact hrw v hv
          · rw [List.mem_singleton.mp hv]
            refine ⟨?_, by omega, hwp⟩
            intro e; rw [e] at hws; simp at hws; omega
      rintro acc Γ ⟨w5, t, x, y, rs, rfl, ht, hw5, rfl, hrs, hrw⟩
      rw [ints_len] at hrs hw5
      have hrl : rs.length ≤ 6 := by omega
      have hjoin : ∀ ws ∈ rs, Wd' abc 1 most ws.flatten := by
        intro ws hws
        obtain ⟨h1, h2, h3⟩ := hrw ws hws
        have hlen : ∀ l : List Txt, (∀ u ∈ l, u ∈ ps) → l.length ≤ l.flatten.length ∧ l.flatten.length ≤ l.length * z ∧ ∀ c ∈ l.flatten, c ∈ abc := by
          intro l
          induction l with
          | nil => intro _; exact ⟨Nat.le_refl _, Nat.zero_le _, fun c hc => by cases hc⟩
          | cons a l il =>
            intro h
            obtain ⟨g1, g2, g3⟩ := il fun x hx => h x (List.mem_cons_of_mem _ hx)
            obtain ⟨u1, u2, u3⟩ := hpw a (h a List.mem_cons_self)
            rw [List.flatten_cons, List.length_append, List.length_cons, Nat.add_mul]
            refine ⟨by omega, by omega, fun c hc => ?_⟩
            rcases List.mem_append.mp hc with hc | hc
            · exact u3 c hc
            · exact g3 c hc
        obtain ⟨g1, g2, g3⟩ := hlen ws h3
        have := List.length_pos_iff.mpr h1
        have h5 : ws.length * z ≤ q * z := Nat.mul_le_mul_right z h2
        exact ⟨by omega, by omega, g3⟩
      simp -implicitDefEqProofs [wipeS]
      refine ⟨by rw [line_eq]; omega, ?_⟩
      refine lc0 (IJn w5 rs _ _ _ _ _ _ _ _ _) ⟨none, rfl, rfl⟩ ?_ ?_
      · rintro i d acc Γ hi ⟨x, rfl, rfl⟩
        rw [List.getElem?_map] at hi
        obtain ⟨ws, e, rfl⟩ := Option.map_eq_some_iff.mp hi
        have hj := hjoin ws (List.mem_of_getElem? e)
        have hjl : (ws.map List.length).sum ≤ line := by
          have := hj.2.1
          rw [List.length_flatten] at this
          rw [line_eq]; omega
        refine ⟨_, rfl, ?_⟩
        simp -implicitDefEqProofs [wipeS, hjl, joinT_empty]
        refine ⟨_, rfl, ?_⟩
        rw [List.take_add_one, e]
        simp
      · rintro acc Γ ⟨x, rfl, rfl⟩
        simp only [List.length_map, List.take_length]
        refine ⟨by rw [line_eq]; omega, k (rs.map List.flatten) _ _ ⟨?_, by rw [List.length_map]; omega, fun v hv => ?_⟩ (hw5.mono (by omega))⟩
        · intro e
          rw [List.map_eq_nil_iff] at e
          rw [e] at hrs
          simp at hrs
          omega
        · obtain ⟨ws, hws, rfl⟩ := List.mem_map.mp hv
          exact hjoin ws hws
    · refine sip_call hw2 (by omega) (by omega) (by omega) fun r3 w3 Γ3 p0 p1 hw3 => ?_
      obtain ⟨z, hz, hz1, hz2⟩ : ∃ z : Nat, (1 + r3 : Int) = z ∧ 1 ≤ z ∧ z ≤ most := ⟨(1 + r3).toNat, by omega, by omega, by omega⟩
      have h62 : small62 (1 + r2) := by unfold small62; omega
      simp -implicitDefEqProofs [hz, rng1_int _ h62]
      refine lc0 (IPi n abc z most _ _ _ _) ⟨w3, none, [], rfl, hw3, rfl, rfl, fun u hu => by cases hu⟩ ?_ ?_
      · rintro i d acc Γ hi ⟨w', x, ps, rfl, hw', rfl, hps, hpw⟩
        obtain ⟨rfl, hi2⟩ := ints_get hi
        refine ⟨_, rfl, ?_⟩
        simp -implicitDefEqProofs [wipeS]
        by_cases h6 : r = 6
        · simp -implicitDefEqProofs [h6]
          refine word_spec hw' (by omega) ha0 (by omega) (Nat.le_refl _) (by omega) fun s w4 Γ4 hs hw4 => ?_
          simp -implicitDefEqProofs
          refine ⟨w4, _, ps ++ [s], rfl, hw4.mono (by omega), by simp, by simp [hps], fun u hu => ?_⟩
          rcases List.mem_append.mp hu with hu | hu
          · exact hpw u hu
          · rw [List.mem_singleton.mp hu]; exact ⟨Nat.le_trans hz1 hs.1, Nat.le_trans hs.2.1 hz2, hs.2.2⟩
        · simp -implicitDefEqProofs [h6]
          refine word_spec (a := 1) hw' (by omega) ha0 (by omega) (by omega) (by omega) fun s w4 Γ4 hs hw4 => ?_
          simp -implicitDefEqProofs
          refine ⟨w4, _, ps ++ [s], rfl, hw4.mono (by omega), by simp, by simp [hps], fun u hu => ?_⟩
          rcases List.mem_append.mp hu with hu | hu
          · exact hpw u hu
          · rw [List.mem_singleton.mp hu]; exact hs
      rintro acc Γ ⟨w4, x, ps, rfl, hw4, rfl, hps, hpw⟩
      rw [ints_len] at hps hw4
      have hrow : Row abc cap most ps := ⟨by intro e; rw [e] at hps; simp at hps; omega, by omega, hpw⟩
      have hrl := hrow.len
      simp -implicitDefEqProofs [wipeS]
      refine ⟨by rw [line_eq]; omega, ?_⟩
      split
      · rename_i h5
        split
        · rename_i hm1
          obtain ⟨p0, e0, hp0, e02⟩ := atI_map (ws := ps) (r := 0) (Int.le_refl _) (by omega)
          obtain ⟨cs, ecs, hcl, hcm⟩ := cut_map (ps := ps) none (some (-1))
          have hl1 : 1 ≤ line := by rw [line_eq]; omega
          have hcs : cs.length + 1 ≤ line := by rw [line_eq]; omega
          simp -implicitDefEqProofs [e0, dNeg, ecs, hl1, hcs]
          have e9 : List.map D.str cs ++ [D.str []] = (cs ++ [[]]).map D.str := by simp
          rw [e9]
          refine pick_spec hw4 (by omega) (by simp) (by simp; omega) fun d w5 Γ5 hd hw5 => ?_
          obtain ⟨u, hu, rfl⟩ := map_of_mem hd
          have hu2 : u.length ≤ 5 ∧ ∀ c ∈ u, c ∈ abc := by
            rcases List.mem_append.mp hu with hu | hu
            · have := hpw u (hcm u hu)
              exact ⟨by have := this.2.1; omega, this.2.2⟩
            · rw [List.mem_singleton.mp hu]; exact ⟨by simp, fun c hc => by cases hc⟩
          obtain ⟨g1, g2, g3⟩ := hpw p0 hp0
          have hal : p0.length + u.length ≤ line := by rw [line_eq]; omega
          simp -implicitDefEqProofs [hal, cut_to _ (show (0 : Int) ≤ most by omega), dNeg, ixN]
          rw [if_pos (by omega : 1 ≤ (ps.length : Int))]
          simp -implicitDefEqProofs
          have e8 : (List.map D.str ps).set (-1 + (ps.length : Int)).toNat (D.str (List.take most (p0 ++ u))) = (ps.set (-1 + (ps.length : Int)).toNat (List.take most (p0 ++ u))).map D.str := by rw [List.map_set]
          rw [e8]
          refine mixed_spec hw5 (by omega) (by simp; omega) fun ys w6 Γ6 hp hw6 => ?_
          obtain ⟨us, rfl, hq⟩ := perm_strs hp
          simp -implicitDefEqProofs
          refine k us _ _ ⟨?_, ?_, fun v hv => ?_⟩ (hw6.mono (by omega))
          · intro e
            have := hq.length_eq
            rw [e, List.length_set] at this
            simp at this; omega
          · have := hq.length_eq
            rw [List.length_set] at this
            omega
          · rcases List.mem_or_eq_of_mem_set (hq.mem_iff.mp hv) with h9 | rfl
            · exact hpw v h9
            · refine ⟨?_, List.length_take_le _ _, fun c hc => ?_⟩
              · rw [List.length_take, List.length_append]
                omega
              · rcases List.mem_append.mp (List.mem_of_mem_take hc) with hc | hc
                · exact g3 c hc
                · exact hu2.2 c hc
        · exact k ps _ _ hrow (hw4.mono (by omega))
      · exact k ps _ _ hrow (hw4.mono (by omega))
end PM
set_option Elab.async false
set_option linter.all false
set_option maxRecDepth 100000
set_option maxHeartbeats 4000000
set_option autoImplicit false
namespace PM
open PySem PySem.Spec PyProof.Rows L2
/-! ### books -/
@[simp] theorem dNotIn_sign (c : Nat) (s : Txt) : dNotIn (.str [c]) (.str s) = some (!decide (c ∈ s)) := rfl
@[simp] theorem dLe_str (s z : Txt) : dLe (.str s) (.str z) = some (!decide (z < s)) := rfl
@[simp] theorem dLt_str (s z : Txt) : dLt (.str s) (.str z) = some (decide (s < z)) := rfl
@[simp] theorem dNe_int (i j : Int) : dNe (.int i) (.int j) = some (!decide (i = j)) := rfl
@[simp] theorem dNe_str (i j : Txt) : dNe (.str i) (.str j) = some (!decide (i = j)) := rfl
@[simp] theorem mRan_ap (Γ : Sl) {α : Type} : (mNo : M α) Γ = .stuck := rfl
theorem abc_in {c : Nat} (h : 97 ≤ c ∧ c ≤ 122) : c ∈ [97, 98, 99, 100, 101, 102, 103, 104, 105, 106, 107, 108, 109, 110, 111, 112, 113, 114, 115, 116, 117, 118, 119, 120, 121, 122] := by
  simp; omega
def ICs (s : Txt) (i : Nat) (Γ : Sl) : Prop := ∃ x, ∃ last : Txt, Γ = [some (.sh (.str s)), some (.sh (.str last)), x] ∧ ∀ c, s[i]? = some c → last < [c]
theorem signs_spec {n : Nat} {s : Txt} {P : T → Sl → Prop} (h : Abc n s) (hn : 1 ≤ n) (k : ∀ Γ', P (.sh .non) Γ') : wpc m_checked_signs 3 [.sh (.str s)] P := by
  refine wpc_of ?_
  unfold m_checked_signs
  simp -implicitDefEqProofs [start']
  refine for_spec _ (ICs s) _ ⟨_, [], rfl, fun c _ => by simp⟩ ?_ ?_
  · rintro i d Γ hi ⟨x, last, rfl, hlast⟩
    obtain ⟨c, rfl, hic⟩ := signs_get hi
    have hlt := hlast c hic
    have hin := abc_in (h.az c (List.mem_of_getElem? hic))
    refine ⟨_, rfl, ?_⟩
    simp -implicitDefEqProofs [hlt]
    refine ⟨by have := h.az c (List.mem_of_getElem? hic); omega, ?_⟩
    refine ⟨_, _, rfl, fun e he => ?_⟩
    obtain ⟨hl1, e1⟩ := List.getElem?_eq_some_iff.mp hic
    obtain ⟨hl2, e2⟩ := List.getElem?_eq_some_iff.mp he
    have := (List.pairwise_iff_getElem.mp h.up) i (i + 1) hl1 hl2 (by omega)
    rw [e1, e2] at this
    exact List.cons_lt_cons_iff.mpr (.inl this)
  · rintro Γ ⟨x, last, rfl, _⟩
    have : s ≠ [] := fun e => by have := h.len; rw [e] at this; simp at this; omega
    simp -implicitDefEqProofs [this]
    exact k _
def IKn (m s : Txt) (i : Nat) (Γ : Sl) : Prop := ∃ x, Γ = [some (.sh (.str m)), some (.sh (.str s)), x]
theorem known_spec {m s : Txt} {P : T → Sl → Prop} (h : ∀ c ∈ m, c ∈ s) (k : ∀ Γ', P (.sh .non) Γ') : wpc m_known 3 [.sh (.str m), .sh (.str s)] P := by
  refine wpc_of ?_
  unfold m_known
  simp -implicitDefEqProofs [start']
  refine for_spec _ (IKn m s) _ ⟨_, rfl⟩ ?_ ?_
  · rintro i d Γ hi ⟨x, rfl⟩
    obtain ⟨c, rfl, hic⟩ := signs_get hi
    refine ⟨_, rfl, ?_⟩
    simp -implicitDefEqProofs [h c (List.mem_of_getElem? hic)]
    exact ⟨_, rfl⟩
  · rintro Γ ⟨x, rfl⟩
    exact k _
theorem fvs_strs : ∀ ws : List Txt, D.fvs (ws.map .str) = some (ws.map fun w => V.str (tx w))
  | [] => rfl
  | w :: ws => by
    show (match D.fv (.str w), D.fvs (ws.map .str) with | some v, some vs => some (v :: vs) | _, _ => none) = _
    rw [fvs_strs ws]; rfl
theorem eqV_ss (a b : Str) : eqV (V.str a) (V.str b) = (a == b) := rfl
theorem dIn_strs (s : Txt) (ws : List Txt) : dIn (.str s) (.lst (ws.map .str)) = some (decide (s ∈ ws)) := by
  have h : dIn (.str s) (.lst (ws.map .str)) = match D.fv (.str s), (D.fvs (ws.map .str)) with
    | some v, some vs => some (inV v vs)
    | _, _ => none := by
    unfold dIn
    simp [D.seq?]
    all_goals rfl
  rw [h, fvs_strs]
  show some (inV _ _) = _
  congr 1
  unfold inV
  rw [Bool.eq_iff_iff, List.any_map, List.any_eq_true, decide_eq_true_iff]
  constructor
  · rintro ⟨w, hw, e⟩
    have e : (tx w == tx s) = true := e
    rw [beq_iff_eq, tx_inj] at e
    rw [← e]; exact hw
  · intro hs
    refine ⟨s, hs, ?_⟩
    show (tx s == tx s) = true
    exact beq_self_eq_true _
theorem dNotIn_strs (s : Txt) (ws : List Txt) : dNotIn (.str s) (.lst (ws.map .str)) = some (!decide (s ∈ ws)) := by
  unfold dNotIn
  rw [dIn_strs]; rfl
theorem made_spec {m : M Out} {n : Nat} {ts : List T} {Γ : Sl} {P : T → Sl → Prop} (h : wpc m n ts (fun t Γc => ∃ u Γ', t = .sh .non ∧ Γc = some u :: Γ' ∧ P u Γ)) : Wp (opt (madeOf (outOf (m (start' n ts)))) Γ) P := by
  obtain ⟨t, Γ1, e, u, Γ2, rfl, rfl, p⟩ := h.go
  rw [e, wpS_opt]
  exact ⟨u, rfl, p⟩
def bookT (key : Txt) (ws : List Txt) (abc : Txt) : T := .ob "Book" [("_signs", .sh (.str key)), ("_words", .fl (ws.map .str)), ("_letters", .sh (.str abc))]
def bookV (key : Txt) (ws : List Txt) (abc : Txt) : D := .ins "Book" [("_signs", .str key), ("_words", .lst (ws.map .str)), ("_letters", .str abc)]
@[simp] theorem bookT_d (key : Txt) (ws : List Txt) (abc : Txt) : (bookT key ws abc).d? = some (bookV key ws abc) := by
  unfold bookT bookV
  simp
def IBi (key abc : Txt) (ws : List Txt) (i : Nat) (Γ : Sl) : Prop := ∃ x, Γ = [some (.ob "Book" []), some (.sh (.str key)), some (.sh (.lst (ws.map .str))), some (.sh (.str abc)), x]
theorem init_spec {r n cap most : Nat} {key abc : Txt} {ws : List Txt} {P : T → Sl → Prop} (ha : Abc r abc) (hr : 1 ≤ r) (hk : Abc ws.length key) (hw : Row abc cap most ws) (hc : cap ≤ 100) (k : ∀ Γ', P (.sh .non) (some (bookT key ws abc) :: Γ')) :
    wpc m_Book___init__ 5 [.ob "Book" [], .sh (.str key), .sh (.lst (ws.map .str)), .sh (.str abc)] P := by
  refine wpc_of ?_
  unfold m_Book___init__
  have hl := List.length_pos_iff.mpr hw.ne
  have hl2 := hw.len
  simp -implicitDefEqProofs [start']
  refine signs_spec hk (by omega) fun Γ1 => ?_
  refine signs_spec ha (by omega) fun Γ2 => ?_
  have hkl : key.length = ws.length := hk.len
  have hkl2 : ws.length ≤ line := by rw [line_eq]; omega
  have h0 : ¬ ([] : Txt) ∈ ws := fun h => by have := (hw.wd _ h).1; simp at this
  simp -implicitDefEqProofs [hkl, hkl2, dIn_strs, h0]
  refine for_spec _ (IBi key abc ws) _ ⟨_, rfl⟩ ?_ ?_
  · rintro i d Γ hi ⟨x, rfl⟩
    obtain ⟨u, rfl, hu⟩ := strs_get hi
    refine ⟨_, rfl, ?_⟩
    simp -implicitDefEqProofs
    refine known_spec (hw.wd u (List.mem_of_getElem? hu)).2.2 fun Γ3 => ?_
    exact ⟨_, rfl⟩
  · rintro Γ ⟨x, rfl⟩
    have hf1 : ¬ (Str.ofString "_signs" = Str.ofString "_words") := by decide
    have hf2 : ¬ (Str.ofString "_signs" = Str.ofString "_letters") := by decide
    have hf3 : ¬ (Str.ofString "_words" = Str.ofString "_letters") := by decide
    simp -implicitDefEqProofs [putT, dList, hf1, hf2, hf3]
    exact k _
/-- a book's class is called -/
theorem make_spec {r n cap most : Nat} {key abc : Txt} {ws : List Txt} {Γ : Sl} {P : T → Sl → Prop} (ha : Abc r abc) (hr : 1 ≤ r) (hk : Abc ws.length key) (hw : Row abc cap most ws) (hc : cap ≤ 100) (k : P (bookT key ws abc) Γ) :
    Wp (opt (madeOf (outOf (m_Book___init__ [some (.ob (Str.ofString "Book") []), some (.sh (.str key)), some (.sh (.lst (ws.map .str))), some (.sh (.str abc)), none]))) Γ) P :=
  made_spec (n := 5) (ts := [.ob "Book" [], .sh (.str key), .sh (.lst (ws.map .str)), .sh (.str abc)]) (init_spec (r := r) (n := n) ha hr hk hw hc fun Γ' => ⟨_, _, rfl, rfl, k⟩)
@[simp] theorem bookV_cls (key abc : Txt) (ws : List Txt) : clsOf (bookV key ws abc) = some (Str.ofString "Book") := rfl
@[simp] theorem bookV_isC (key abc : Txt) (ws : List Txt) : isC (Str.ofString "Book") (bookV key ws abc) = true := by unfold isC; rw [bookV_cls]; simp
@[simp] theorem bookV_signs (key abc : Txt) (ws : List Txt) : dFld (Str.ofString "_signs") (bookV key ws abc) = some (.str key) := by rfl
@[simp] theorem bookV_words (key abc : Txt) (ws : List Txt) : dFld (Str.ofString "_words") (bookV key ws abc) = some (.lst (ws.map .str)) := by
  unfold bookV dFld
  simp [List.lookup, show (Str.ofString "_words" == Str.ofString "_signs") = false by decide]
@[simp] theorem bookV_letters (key abc : Txt) (ws : List Txt) : dFld (Str.ofString "_letters") (bookV key ws abc) = some (.str abc) := by
  unfold bookV dFld
  simp [List.lookup, show (Str.ofString "_letters" == Str.ofString "_signs") = false by decide, show (Str.ofString "_letters" == Str.ofString "_words") = false by decide]
theorem bookV_ok {mn : Str} (key abc : Txt) (ws : List Txt) (h1 : (mn == Str.ofString "_signs") = false) (h2 : (mn == Str.ofString "_words") = false) (h3 : (mn == Str.ofString "_letters") = false) : insOk (Str.ofString "Book") mn (bookV key ws abc) = true := by
  unfold bookV insOk
  simp [List.lookup, h1, h2, h3]
@[simp] theorem bookV_ok1 (key abc : Txt) (ws : List Txt) : insOk (Str.ofString "Book") (Str.ofString "signs") (bookV key ws abc) = true := bookV_ok _ _ _ (by decide) (by decide) (by decide)
@[simp] theorem bookV_ok2 (key abc : Txt) (ws : List Txt) : insOk (Str.ofString "Book") (Str.ofString "words") (bookV key ws abc) = true := bookV_ok _ _ _ (by decide) (by decide) (by decide)
@[simp] theorem bookV_ok3 (key abc : Txt) (ws : List Txt) : insOk (Str.ofString "Book") (Str.ofString "letters") (bookV key ws abc) = true := bookV_ok _ _ _ (by decide) (by decide) (by decide)
@[simp] theorem bookV_ok4 (key abc : Txt) (ws : List Txt) : insOk (Str.ofString "Book") (Str.ofString "written") (bookV key ws abc) = true := bookV_ok _ _ _ (by decide) (by decide) (by decide)
theorem letters_spec {key abc : Txt} {ws : List Txt} {P : T → Sl → Prop} (k : ∀ Γ', P (.sh (.str abc)) Γ') : wpc m_Book_letters 1 [.sh (bookV key ws abc)] P := by
  refine wpc_of ?_
  unfold m_Book_letters
  simp -implicitDefEqProofs [start']
  exact k _
theorem bsigns_spec {key abc : Txt} {ws : List Txt} {P : T → Sl → Prop} (k : ∀ Γ', P (.sh (.str key)) Γ') : wpc m_Book_signs 1 [.sh (bookV key ws abc)] P := by
  refine wpc_of ?_
  unfold m_Book_signs
  simp -implicitDefEqProofs [start']
  exact k _
theorem bwords_spec {key abc : Txt} {ws : List Txt} {P : T → Sl → Prop} (k : ∀ Γ', P (.fl (ws.map .str)) Γ') : wpc m_Book_words 1 [.sh (bookV key ws abc)] P := by
  refine wpc_of ?_
  unfold m_Book_words
  simp -implicitDefEqProofs [start', dList]
  exact k _
theorem blen_spec {key abc : Txt} {ws : List Txt} {P : T → Sl → Prop} (k : ∀ Γ', P (.sh (.int ws.length)) Γ') : wpc m_Book___len__ 1 [.sh (bookV key ws abc)] P := by
  refine wpc_of ?_
  unfold m_Book___len__
  simp -implicitDefEqProofs [start']
  exact k _
theorem up_idx {s : Txt} (h : s.Pairwise (· < ·)) : ∀ {i : Nat} {c : Nat}, s[i]? = some c → s.idxOf c = i := by
  intro i c hi
  have hn : s.Nodup := h.imp fun l e => by omega
  obtain ⟨hl, e⟩ := List.getElem?_eq_some_iff.mp hi
  rw [← e]
  exact hn.idxOf_getElem i hl
theorem written_spec {key abc : Txt} {ws : List Txt} {i c : Nat} {w : Txt} {P : T → Sl → Prop} (hk : Abc ws.length key) (hi : key[i]? = some c) (hw : ws[i]? = some w) (hwl : w.length ≤ 10) (k : ∀ Γ', P (.sh (.str w)) Γ') : wpc m_Book_written 3 [.sh (bookV key ws abc), .sh (.str [c])] P := by
  refine wpc_of ?_
  unfold m_Book_written
  simp -implicitDefEqProofs [start']
  have hck := List.mem_of_getElem? hi
  refine known_spec (fun d hd => by rw [List.mem_singleton.mp hd]; exact hck) fun Γ1 => ?_
  have hix := up_idx hk.up hi
  have e : atI (ws.map D.str) (i : Int) = some (.str w) := by
    obtain ⟨hl, _⟩ := List.getElem?_eq_some_iff.mp hw
    obtain ⟨u, e1, _, e2⟩ := atI_map (ws := ws) (r := (i : Int)) (by omega) (by omega)
    rw [show (i : Int).toNat = i from rfl, hw] at e2
    rw [e1, Option.some.inj e2]
  have hjl : w.length ≤ line := by rw [line_eq]; omega
  have hj := dJoin_lst [] [w]
  simp [hjl, joinT_empty] at hj
  simp -implicitDefEqProofs [lcM_cons, lcM_nil, signs, wipeS, dSix, hck, hix, e, hj]
  exact ⟨by rw [line_eq]; omega, k _⟩
theorem strs_sh {ws : List Txt} (h : ∀ w ∈ ws, w.length ≤ 10 ∧ ∀ c ∈ w, c < 1000) : Sh 1 (104 * ws.length + 4) (.lst (ws.map .str)) := by
  have : ∀ d ∈ ws.map D.str, Sh 0 102 d := fun d hd => by
    obtain ⟨w, hw, rfl⟩ := map_of_mem hd
    obtain ⟨h1, h2⟩ := h w hw
    exact .mono (.str h2) (Nat.le_refl _) (by omega)
  have := Sh.lst this
  rw [List.length_map] at this
  exact this
theorem strs_exact : ∀ ws : List Txt, D.exacts (ws.map .str) = true
  | [] => rfl
  | w :: ws => by
    show (D.exact (.str w) && D.exacts (ws.map .str)) = true
    rw [strs_exact ws]; rfl
theorem strs_inj : ∀ {ws us : List Txt}, ws.map D.str = us.map D.str → ws = us
  | [], [], _ => rfl
  | [], _ :: _, h => by cases h
  | _ :: _, [], h => by cases h
  | a :: ws, b :: us, h => by
    simp only [List.map_cons, List.cons.injEq, D.str.injEq] at h
    rw [h.1, strs_inj h.2]
theorem dEq_strs {ws us : List Txt} (h : ∀ w ∈ ws, w.length ≤ 10 ∧ ∀ c ∈ w, c < 1000) (h2 : ∀ w ∈ us, w.length ≤ 10 ∧ ∀ c ∈ w, c < 1000) : dEq (.lst (ws.map .str)) (.lst (us.map .str)) = some (decide (ws = us)) := by
  obtain ⟨b, e, hb⟩ := dEq_seq (strs_sh h) (strs_sh h2) (by decide) (by decide) (by simpa [D.exact] using strs_exact ws) (by simpa [D.exact] using strs_exact us) (fun _ _ h => by cases h) (fun _ _ h => by cases h)
  rw [e]
  congr 1
  rw [Bool.eq_iff_iff, hb, decide_eq_true_iff]
  constructor
  · intro h
    exact strs_inj (D.lst.inj h)
  · intro h; rw [h]
theorem row_tx {abc : Txt} {n cap most : Nat} {ws : List Txt} (ha : Abc n abc) (h : Row abc cap most ws) (hm : most ≤ 10) : ∀ w ∈ ws, w.length ≤ 10 ∧ ∀ c ∈ w, c < 1000 := fun w hw => by
  obtain ⟨_, h2, h3⟩ := h.wd w hw
  exact ⟨by omega, fun c hc => by have := ha.az c (h3 c hc); omega⟩
theorem beq_spec {key abc : Txt} {ws : List Txt} {P : T → Sl → Prop} (h : ∀ w ∈ ws, w.length ≤ 10 ∧ ∀ c ∈ w, c < 1000) (k : ∀ Γ', P (.sh (.bl true)) Γ') : wpc m_Book___eq__ 2 [.sh (bookV key ws abc), .sh (bookV key ws abc)] P := by
  refine wpc_of ?_
  unfold m_Book___eq__
  simp -implicitDefEqProofs [start', dEq_strs h h]
  exact k _
theorem dIs_tt : dIs (.bl true) (.bl true) = some true := rfl
def ISt (key abc : Txt) (ws : List Txt) (i : Nat) (acc : List D) (Γ : Sl) : Prop := ∃ x, Γ = [some (.sh (bookV key ws abc)), some (.sh (.str key)), some (.sh (.lst (ws.map .str))), some (.sh (.str abc)), some (.sh (bookV key ws abc)), x] ∧ acc = (ws.take i).map .str
theorem stays_spec {r cap most : Nat} {key abc : Txt} {ws : List Txt} {P : T → Sl → Prop} (ha : Abc r abc) (hr : 1 ≤ r) (hr3 : r ≤ 3) (hk : Abc ws.length key) (hw : Row abc cap most ws) (hc : cap ≤ 10) (hm : most ≤ 10) (k : ∀ Γ', P (.sh (.bl true)) Γ') :
    wpc m__law_stays 6 [.sh (bookV key ws abc), .sh (.str key), .sh (.lst (ws.map .str)), .sh (.str abc)] P := by
  refine wpc_of ?_
  unfold m__law_stays
  have htx := row_tx ha hw hm
  have hwl := hw.len
  have hkl := hk.len
  have hal := ha.len
  simp -implicitDefEqProofs [start']
  refine bsigns_spec fun Γ1 => ?_
  simp -implicitDefEqProofs
  refine bwords_spec fun Γ2 => ?_
  simp -implicitDefEqProofs
  refine letters_spec fun Γ3 => ?_
  simp -implicitDefEqProofs
  refine blen_spec fun Γ4 => ?_
  have h4 : 4 ≤ line := by rw [line_eq]; omega
  have hsh : Sh 2 100000 (.lst [.str key, .lst (ws.map .str), .str abc, .int ws.length]) := by
    refine .mono (Sh.lst (k := 1) (c := 2000) (xs := [.str key, .lst (ws.map .str), .str abc, .int ws.length]) fun d hd => ?_) (by decide) (by simp)
    simp at hd
    rcases hd with rfl | rfl | rfl | rfl
    · exact .mono (.str fun c hc => by have := hk.az c hc; omega) (by decide) (by omega)
    · exact .mono (strs_sh htx) (by decide) (by omega)
    · exact .mono (.str fun c hc => by have := ha.az c hc; omega) (by decide) (by omega)
    · refine .mono (.int (Nat.lt_of_lt_of_le (show (ws.length : Int).natAbs < 2 ^ 10 by omega) (Nat.pow_le_pow_right (by decide) (by decide)))) (by decide) (by decide)
  obtain ⟨rs, hrs⟩ := hsh.repr (by decide) (by decide)
  simp -implicitDefEqProofs [lenT, h4, hrs, dList]
  refine ⟨by omega, make_spec (n := 0) ha hr hk hw (by omega) ?_⟩
  simp -implicitDefEqProofs
  refine lc0 (ISt key abc ws) ⟨_, rfl, rfl⟩ ?_ ?_
  · rintro i d acc Γ hi ⟨x, rfl, rfl⟩
    obtain ⟨c, rfl, hic⟩ := signs_get hi
    have hil : i < ws.length := by
      obtain ⟨hl, _⟩ := List.getElem?_eq_some_iff.mp hic
      omega
    have hwi : ws[i]? = some ws[i] := List.getElem?_eq_getElem hil
    refine ⟨_, rfl, ?_⟩
    simp -implicitDefEqProofs [wipeS]
    refine written_spec hk hic hwi (by have := (htx _ (List.getElem_mem hil)).1; omega) fun Γ5 => ?_
    simp -implicitDefEqProofs
    refine ⟨_, rfl, ?_⟩
    rw [List.take_add_one (l := ws), hwi]
    rw [List.map_append, List.map_take]
    rfl
  · rintro acc Γ ⟨x, rfl, rfl⟩
    have hsl : (signs key).length = ws.length := by simp [signs, hkl]
    rw [hsl, List.take_length]
    have hline : ws.length ≤ line := by rw [line_eq]; omega
    simp -implicitDefEqProofs [hline, wipeS, dEq_strs htx htx]
    refine beq_spec htx fun Γ5 => ?_
    simp -implicitDefEqProofs [blT, dIs_tt]
    refine beq_spec htx fun Γ6 => ?_
    simp -implicitDefEqProofs [blT, dIs_tt]
    exact k _
end PM
set_option Elab.async false
set_option linter.all false
set_option maxRecDepth 100000
set_option maxHeartbeats 4000000
set_option autoImplicit false
namespace PM
open PySem PySem.Spec PyProof.Rows L2
/-! ### the closure of rests, the program's -/
@[simp] theorem dSw_str (s z : Txt) : dSw (.str s) (.str z) = some (.sh (.bl (z.isPrefixOf s))) := rfl
@[simp] theorem tru_bl (b : Bool) : (D.bl b).tru = some b := rfl
@[simp] theorem dIsNot_non : dIsNot .non .non = some false := rfl
@[simp] theorem dIsNot_str (s : Txt) : dIsNot (.str s) .non = some true := rfl
@[simp] theorem dIs_non : dIs .non .non = some true := rfl
@[simp] theorem dIs_str (s : Txt) : dIs (.str s) .non = some false := rfl
def optD : Option Txt → D
  | none => .non
  | some t => .str t
theorem rest_spec {a b : Txt} {P : T → Sl → Prop} (ha : a.length ≤ 1000) (hb : b.length ≤ 1000) (k : ∀ Γ', P (.sh (optD (restOf a b))) Γ') : wpc m_rest_of 2 [.sh (.str a), .sh (.str b)] P := by
  refine wpc_of ?_
  unfold m_rest_of
  have hal : a.length ≤ line := by rw [line_eq]; omega
  have hbl : b.length ≤ line := by rw [line_eq]; omega
  by_cases h1 : b.isPrefixOf a = true
  · have e : restOf a b = some (a.drop b.length) := by unfold restOf; rw [if_pos h1]
    rw [e] at k
    simp -implicitDefEqProofs [start', h1, hal, hbl, cut_from _ (show (0 : Int) ≤ b.length by omega)]
    exact k _
  · by_cases h2 : a.isPrefixOf b = true
    · have e : restOf a b = some (b.drop a.length) := by unfold restOf; rw [if_neg h1, if_pos h2]
      rw [e] at k
      simp -implicitDefEqProofs [start', h1, h2, hal, hbl, cut_from _ (show (0 : Int) ≤ a.length by omega)]
      exact k _
    · have e : restOf a b = none := by unfold restOf; rw [if_neg h1, if_neg h2]
      rw [e] at k
      simp -implicitDefEqProofs [start', h1, h2, hal, hbl]
      exact k _
theorem enum_get {xs : List D} {i : Nat} {d : D} (h : (enumD xs)[i]? = some d) : ∃ x, d = .tup [.int i, x] ∧ xs[i]? = some x := by
  unfold enumD at h
  rw [List.getElem?_map] at h
  obtain ⟨p, e, rfl⟩ := Option.map_eq_some_iff.mp h
  rw [List.getElem?_zipIdx] at e
  obtain ⟨x, e2, rfl⟩ := Option.map_eq_some_iff.mp e
  exact ⟨x, by simp, e2⟩
theorem enum_len (xs : List D) : (enumD xs).length = xs.length := by simp [enumD]
@[simp] theorem enum1_lst (xs : List D) : enum1 [.lst xs] = some (enumD xs) := rfl
/-- rests found among the first pairs of words -/
structure FR (ws : List Txt) (n m : Nat) (fs : List Txt) : Prop where
  nd : fs.Nodup
  two : ∀ t ∈ fs, ∃ u v, Two' ws u v ∧ restOf u v = some t
  dg : ∀ t ∈ fs, Dg ws t
  all : ∀ (j k : Nat) (u v t : Txt), j < k → (k < n ∨ (k = n ∧ j < m)) → ws[k]? = some u → ws[j]? = some v → restOf u v = some t → t ∈ fs
theorem dg_rest {ws : List Txt} {j k : Nat} {u v t : Txt} (h : j ≠ k) (hu : ws[k]? = some u) (hv : ws[j]? = some v) (e : restOf u v = some t) : Dg ws t := by
  rcases restOf_iff.mp e with e | e
  · exact .first (Ne.symm h) hu hv e
  · exact .first h hv hu e
theorem dg_len {ws : List Txt} (hw : ∀ w ∈ ws, w.length ≤ 100) {t : Txt} (h : Dg ws t) : t.length ≤ 100 := by
  obtain ⟨w, hm, hs⟩ := h.suf
  exact Nat.le_trans hs.length_le (hw w hm)
theorem nd_snoc {fs : List Txt} {t : Txt} (h : fs.Nodup) (hn : t ∉ fs) : (fs ++ [t]).Nodup := by
  rw [List.nodup_append]
  refine ⟨h, by simp, fun a ha b hb => ?_⟩
  rw [List.mem_singleton] at hb
  rw [hb]
  intro e
  exact hn (e ▸ ha)
theorem snoc_map (fs : List Txt) (t : Txt) : List.map D.str fs ++ [D.str t] = (fs ++ [t]).map D.str := by simp
def IFo (ws : List Txt) (i : Nat) (Γ : Sl) : Prop := ∃ fs : List Txt, ∃ x y z u, Γ = [some (.sh (.lst (ws.map .str))), some (.fl (fs.map .str)), x, y, z, u] ∧ FR ws i 0 fs
def IFi (ws : List Txt) (i : Nat) (w : Txt) (m : Nat) (Γ : Sl) : Prop := ∃ fs : List Txt, ∃ z u, Γ = [some (.sh (.lst (ws.map .str))), some (.fl (fs.map .str)), some (.sh (.int i)), some (.sh (.str w)), z, u] ∧ FR ws i m fs
theorem fs_len {ws : List Txt} (hw : ∀ w ∈ ws, w.length ≤ 100) (hn : ws.length ≤ 100) {fs : List Txt} (h1 : fs.Nodup) (h2 : ∀ t ∈ fs, Dg ws t) : fs.length ≤ (allS ws).length + 1 ∧ (allS ws).length ≤ 10000 := by
  have h3 := allS_len hw
  have h4 : ws.length * 100 ≤ 100 * 100 := Nat.mul_le_mul_right 100 hn
  refine ⟨?_, by omega⟩
  have := nodup_le (m := [] :: allS ws) h1 fun t ht => by
    by_cases e : t = []
    · rw [e]; exact List.mem_cons_self
    · exact List.mem_cons_of_mem _ (allS_mem e (h2 t ht))
  simpa using this
theorem firsts_spec {ws : List Txt} {P : T → Sl → Prop} (hw : ∀ w ∈ ws, w.length ≤ 100) (hn : ws.length ≤ 100) (k : ∀ fs Γ', FR ws ws.length 0 fs → P (.fl (fs.map .str)) Γ') : wpc m_first_rests 6 [.sh (.lst (ws.map .str))] P := by
  refine wpc_of ?_
  unfold m_first_rests
  simp -implicitDefEqProofs [start']
  refine for_spec _ (IFo ws) _ ⟨[], _, _, _, _, rfl, List.nodup_nil, (fun t ht => absurd ht (by simp)), (fun t ht => absurd ht (by simp)), (fun j k u v t h1 h2 => by omega)⟩ ?_ ?_
  · rintro i d Γ hi ⟨fs, x, y, z, u, rfl, hf⟩
    obtain ⟨e, rfl, he⟩ := enum_get hi
    obtain ⟨w, rfl, hwi⟩ := strs_get he
    have hwl := hw w (List.mem_of_getElem? hwi)
    obtain ⟨hil, _⟩ := List.getElem?_eq_some_iff.mp hwi
    refine ⟨_, rfl, ?_⟩
    simp -implicitDefEqProofs [cut_to _ (show (0 : Int) ≤ i by omega)]
    refine for_spec _ (IFi ws i w) _ ⟨fs, _, _, rfl, hf⟩ ?_ ?_
    · rintro m d Γ hm ⟨fs, z, u, rfl, hf⟩
      rw [← List.map_take] at hm
      obtain ⟨v, rfl, hvm0⟩ := strs_get hm
      have hmi : m < i := by
        obtain ⟨h1, _⟩ := List.getElem?_eq_some_iff.mp hvm0
        rw [List.length_take] at h1
        omega
      have hvm : ws[m]? = some v := by
        rw [List.getElem?_take_of_lt hmi] at hvm0
        exact hvm0
      clear hvm0
      have hvl := hw v (List.mem_of_getElem? hvm)
      obtain ⟨hfl, hal⟩ := fs_len hw hn hf.nd hf.dg
      have hfl2 : fs.length < line := by rw [line_eq]; omega
      refine ⟨_, rfl, ?_⟩
      simp -implicitDefEqProofs
      refine rest_spec (by omega) (by omega) fun Γ1 => ?_
      have stay : restOf w v = none ∨ (∃ t, restOf w v = some t ∧ t ∈ fs) → FR ws i (m + 1) fs := by
        intro h
        refine ⟨hf.nd, hf.two, hf.dg, fun j k a b t h1 h2 ha hb hr => ?_⟩
        by_cases hc : k < i ∨ (k = i ∧ j < m)
        · exact hf.all j k a b t h1 hc ha hb hr
        · obtain rfl : k = i := by omega
          obtain rfl : j = m := by omega
          rw [hwi] at ha; rw [hvm] at hb
          cases ha; cases hb
          rcases h with h | ⟨t', h, ht⟩
          · rw [h] at hr; cases hr
          · rw [h] at hr; cases hr; exact ht
      cases hr : restOf w v with
      | none =>
        simp -implicitDefEqProofs [optD]
        exact ⟨fs, _, _, rfl, stay (.inl hr)⟩
      | some t =>
        simp -implicitDefEqProofs [optD, dNotIn_strs, hfl2]
        split
        · rename_i ht
          exact ⟨fs, _, _, rfl, stay (.inr ⟨t, hr, ht⟩)⟩
        · rename_i ht
          rw [snoc_map]
          refine ⟨fs ++ [t], _, _, rfl, nd_snoc hf.nd ht, fun s hs => ?_, fun s hs => ?_, fun j k a b t' h1 h2 ha hb hr' => ?_⟩
          · rcases List.mem_append.mp hs with hs | hs
            · exact hf.two s hs
            · rw [List.mem_singleton.mp hs]; exact ⟨w, v, ⟨i, m, by omega, hwi, hvm⟩, hr⟩
          · rcases List.mem_append.mp hs with hs | hs
            · exact hf.dg s hs
            · rw [List.mem_singleton.mp hs]; exact dg_rest (by omega) hwi hvm hr
          · by_cases hc : k < i ∨ (k = i ∧ j < m)
            · exact List.mem_append_left _ (hf.all j k a b t' h1 hc ha hb hr')
            · obtain rfl : k = i := by omega
              obtain rfl : j = m := by omega
              rw [hwi] at ha; rw [hvm] at hb
              cases ha; cases hb
              rw [hr] at hr'; cases hr'
              simp
    · rintro Γ ⟨fs, z, u, rfl, hf⟩
      rw [List.length_take, List.length_map, Nat.min_eq_left (by omega)] at hf
      exact ⟨fs, _, _, _, _, rfl, hf.nd, hf.two, hf.dg, fun j k a b t h1 h2 ha hb hr => hf.all j k a b t h1 (by omega) ha hb hr⟩
  · rintro Γ ⟨fs, x, y, z, u, rfl, hf⟩
    rw [enum_len, List.length_map] at hf
    simp -implicitDefEqProofs
    exact k fs _ hf
/-- rests gone through up to a place, and some words for the next one -/
structure DR (ws : List Txt) (n m : Nat) (fs : List Txt) : Prop where
  nd : fs.Nodup
  dg : ∀ t ∈ fs, Dg ws t
  first : ∀ (j k : Nat) (u v t : Txt), j ≠ k → ws[k]? = some u → ws[j]? = some v → u = v ++ t → t ∈ fs
  all : ∀ (j k : Nat) (s v t : Txt), (k < n ∨ (k = n ∧ j < m)) → fs[k]? = some s → s ≠ [] → ws[j]? = some v → restOf s v = some t → t ∈ fs
theorem FR.dr {ws fs : List Txt} (h : FR ws ws.length 0 fs) : DR ws 0 0 fs := by
  refine ⟨h.nd, h.dg, fun j k u v t hjk hu hv e => ?_, fun j k s v t hk => by omega⟩
  obtain ⟨h1, _⟩ := List.getElem?_eq_some_iff.mp hu
  obtain ⟨h2, _⟩ := List.getElem?_eq_some_iff.mp hv
  rcases Nat.lt_or_gt_of_ne hjk with l | l
  · exact h.all j k u v t l (.inl h1) hu hv (restOf_iff.mpr (.inl e))
  · exact h.all k j v u t l (.inl h2) hv hu (restOf_iff.mpr (.inr e))
theorem dg_step {ws : List Txt} {j : Nat} {s v t : Txt} (h : Dg ws s) (h0 : s ≠ []) (hv : ws[j]? = some v) (e : restOf s v = some t) : Dg ws t := by
  have hm := List.mem_of_getElem? hv
  rcases restOf_iff.mp e with e | e
  · exact .left h h0 hm e
  · exact .right h h0 hm e
theorem DR.end_ {ws fs : List Txt} (h : DR ws fs.length 0 fs) {t : Txt} : t ∈ fs ↔ Dg ws t := by
  refine ⟨h.dg t, fun hd => ?_⟩
  have step : ∀ s w t : Txt, s ∈ fs → s ≠ [] → w ∈ ws → restOf s w = some t → t ∈ fs := by
    intro s w t hs h0 hw e
    obtain ⟨k, hk⟩ := List.getElem?_of_mem hs
    obtain ⟨j, hj⟩ := List.getElem?_of_mem hw
    obtain ⟨h1, _⟩ := List.getElem?_eq_some_iff.mp hk
    exact h.all j k s w t (.inl h1) hk h0 hj e
  refine Dg.sub (S := fun t => t ∈ fs) (fun i j u v t hij hu hv e => h.first j i u v t (Ne.symm hij) hu hv e) (fun s w t hs h0 hw e => step s w t hs h0 hw (restOf_iff.mpr (.inl e))) (fun s w t hs h0 hw e => step s w t hs h0 hw (restOf_iff.mpr (.inr e))) hd
def IDo (ws : List Txt) (m : Nat) (Γ : Sl) : Prop := ∃ fs : List Txt, ∃ i : Nat, ∃ x y z, Γ = [some (.sh (.lst (ws.map .str))), some (.fl (fs.map .str)), some (.sh (.int i)), x, y, z] ∧ DR ws i 0 fs ∧ i ≤ fs.length ∧ m + i = (allS ws).length + 1
def IDi (ws : List Txt) (i : Nat) (s : Txt) (m : Nat) (Γ : Sl) : Prop := ∃ fs : List Txt, ∃ y z, Γ = [some (.sh (.lst (ws.map .str))), some (.fl (fs.map .str)), some (.sh (.int ((i + 1 : Nat) : Int))), some (.sh (.str s)), y, z] ∧ DR ws i m fs ∧ fs[i]? = some s
theorem dangling_spec {ws : List Txt} {P : T → Sl → Prop} (hw : ∀ w ∈ ws, w.length ≤ 100) (hn : ws.length ≤ 100) (k : ∀ (fs : List Txt) (Γ' : Sl), fs.Nodup → fs.length ≤ 20000 → (∀ t, t ∈ fs ↔ Dg ws t) → P (.fl (fs.map .str)) Γ') : wpc m_dangling 6 [.sh (.lst (ws.map .str))] P := by
  refine wpc_of ?_
  unfold m_dangling
  simp -implicitDefEqProofs [start']
  refine firsts_spec hw hn fun fs Γ1 hf => ?_
  refine while_spec (IDo ws) ?_ ((allS ws).length + 1) _ ⟨fs, 0, _, _, _, rfl, hf.dr, Nat.zero_le _, rfl⟩
  rintro m Γ ⟨fs, i, x, y, z, rfl, hd, hil, hm⟩
  obtain ⟨hfl, hal⟩ := fs_len hw hn hd.nd hd.dg
  have hfl2 : fs.length < line := by rw [line_eq]; omega
  by_cases hlt : i < fs.length
  · obtain ⟨s, e, hs, e2⟩ := atI_map (ws := fs) (r := (i : Int)) (by omega) (by omega)
    have e2 : fs[i]? = some s := e2
    have hsd := hd.dg s hs
    have hsl := dg_len hw hsd
    simp -implicitDefEqProofs [hlt, e]
    split
    · rename_i h0
      subst h0
      refine ⟨m - 1, by omega, fs, i + 1, _, _, _, rfl, ⟨hd.nd, hd.dg, hd.first, fun j k s v t hk hs h0 hv hr => ?_⟩, hlt, by omega⟩
      by_cases hki : k < i
      · exact hd.all j k s v t (.inl hki) hs h0 hv hr
      · obtain rfl : k = i := by omega
        rw [e2] at hs; cases hs
        exact absurd rfl h0
    · rename_i h0
      refine for_spec _ (IDi ws i s) _ ⟨fs, _, _, rfl, hd, e2⟩ ?_ ?_
      · rintro j d Γ hj ⟨fs, y, z, rfl, hd, e2⟩
        obtain ⟨v, rfl, hvj⟩ := strs_get hj
        have hvl := hw v (List.mem_of_getElem? hvj)
        obtain ⟨hfl, hal⟩ := fs_len hw hn hd.nd hd.dg
        have hfl2 : fs.length < line := by rw [line_eq]; omega
        refine ⟨_, rfl, ?_⟩
        simp -implicitDefEqProofs
        refine rest_spec (by omega) (by omega) fun Γ2 => ?_
        have stay : restOf s v = none ∨ (∃ t, restOf s v = some t ∧ t ∈ fs) → DR ws i (j + 1) fs := by
          intro h
          refine ⟨hd.nd, hd.dg, hd.first, fun j' k a b t hk ha ha0 hb hr => ?_⟩
          by_cases hc : k < i ∨ (k = i ∧ j' < j)
          · exact hd.all j' k a b t hc ha ha0 hb hr
          · obtain rfl : k = i := by omega
            obtain rfl : j' = j := by omega
            rw [e2] at ha; rw [hvj] at hb
            cases ha; cases hb
            rcases h with h | ⟨t', h, ht⟩
            · rw [h] at hr; cases hr
            · rw [h] at hr; cases hr; exact ht
        cases hr : restOf s v with
        | none =>
          simp -implicitDefEqProofs [optD]
          exact ⟨fs, _, _, rfl, stay (.inl hr), e2⟩
        | some t =>
          simp -implicitDefEqProofs [optD, dNotIn_strs, hfl2]
          split
          · rename_i ht
            exact ⟨fs, _, _, rfl, stay (.inr ⟨t, hr, ht⟩), e2⟩
          · rename_i ht
            rw [snoc_map]
            have hix : ∀ k a, (fs ++ [t])[k]? = some a → k ≤ i → fs[k]? = some a := by
              intro k a h hk
              obtain ⟨hl, _⟩ := List.getElem?_eq_some_iff.mp e2
              rw [List.getElem?_append_left (by omega)] at h
              exact h
            refine ⟨fs ++ [t], _, _, rfl, ⟨nd_snoc hd.nd ht, fun s' hs' => ?_, fun j' k u v t h1 h2 h3 h4 => List.mem_append_left _ (hd.first j' k u v t h1 h2 h3 h4), fun j' k a b t' hk ha ha0 hb hr' => ?_⟩, ?_⟩
            · rcases List.mem_append.mp hs' with hs' | hs'
              · exact hd.dg s' hs'
              · rw [List.mem_singleton.mp hs']; exact dg_step hsd h0 hvj hr
            · have ha := hix k a ha (by omega)
              by_cases hc : k < i ∨ (k = i ∧ j' < j)
              · exact List.mem_append_left _ (hd.all j' k a b t' hc ha ha0 hb hr')
              · obtain rfl : k = i := by omega
                obtain rfl : j' = j := by omega
                rw [e2] at ha; rw [hvj] at hb
                cases ha; cases hb
                rw [hr] at hr'; cases hr'
                simp
            · obtain ⟨hl, _⟩ := List.getElem?_eq_some_iff.mp e2
              rw [List.getElem?_append_left (by omega)]
              exact e2
      · rintro Γ ⟨fs, y, z, rfl, hd, e2⟩
        obtain ⟨hl, _⟩ := List.getElem?_eq_some_iff.mp e2
        obtain ⟨hfl, hal⟩ := fs_len hw hn hd.nd hd.dg
        refine ⟨m - 1, by omega, fs, i + 1, _, _, _, rfl, ⟨hd.nd, hd.dg, hd.first, fun j k a b t hk ha ha0 hb hr => hd.all j k a b t ?_ ha ha0 hb hr⟩, hl, by omega⟩
        obtain ⟨h1, _⟩ := List.getElem?_eq_some_iff.mp hb
        rw [List.length_map]
        omega
  · simp -implicitDefEqProofs [hlt]
    have : i = fs.length := by omega
    subst this
    exact k fs _ hd.nd (by omega) fun t => hd.end_
end PM
set_option Elab.async false
set_option linter.all false
set_option maxRecDepth 100000
set_option maxHeartbeats 4000000
set_option autoImplicit false
namespace PM
open PySem PySem.Spec PyProof.Rows L2
/-! ### the program's delay -/
theorem lcp_step {a b : Txt} {i x y : Nat} (h1 : a[i]? = some x) (h2 : b[i]? = some y) : lcp (a.drop i) (b.drop i) = if x = y then lcp (a.drop (i + 1)) (b.drop (i + 1)) + 1 else 0 := by
  obtain ⟨g1, e1⟩ := List.getElem?_eq_some_iff.mp h1
  obtain ⟨g2, e2⟩ := List.getElem?_eq_some_iff.mp h2
  rw [← List.getElem_cons_drop g1, ← List.getElem_cons_drop g2, e1, e2]
  rfl
theorem lcp_end {a b : Txt} {i : Nat} (h : ¬ (i < a.length ∧ i < b.length)) : lcp (a.drop i) (b.drop i) = 0 := by
  have h1 := (lcp_le (a.drop i) (b.drop i)).1
  have h2 := (lcp_le (a.drop i) (b.drop i)).2
  rw [List.length_drop] at h1 h2
  omega
def ILcp (a b : Txt) (m : Nat) (Γ : Sl) : Prop := ∃ i : Nat, Γ = [some (.sh (.str a)), some (.sh (.str b)), some (.sh (.int i))] ∧ lcp (a.drop i) (b.drop i) + i = lcp a b ∧ i ≤ a.length ∧ m + i = a.length
theorem alike_letters_spec {a b : Txt} {P : T → Sl → Prop} (ha : a.length ≤ 1000) (hb : b.length ≤ 1000) (k : ∀ Γ', P (.sh (.int (lcp a b))) Γ') : wpc m_alike_letters 3 [.sh (.str a), .sh (.str b)] P := by
  refine wpc_of ?_
  unfold m_alike_letters
  have hal : a.length ≤ line := by rw [line_eq]; omega
  have hbl : b.length ≤ line := by rw [line_eq]; omega
  simp -implicitDefEqProofs [start']
  refine while_spec (ILcp a b) ?_ a.length _ ⟨0, rfl, rfl, Nat.zero_le _, rfl⟩
  rintro m Γ ⟨i, rfl, hl, hi, hm⟩
  obtain ⟨mn, em, hmn⟩ : ∃ mn : Int, dMin2 [.int a.length, .int b.length] = some (.sh (.int mn)) ∧ ((i : Int) < mn ↔ i < a.length ∧ i < b.length) := by
    refine ⟨_, rfl, ?_⟩
    split <;> omega
  simp -implicitDefEqProofs [hal, hbl, em]
  by_cases hc : (i : Int) < mn
  · obtain ⟨g1, g2⟩ := hmn.mp hc
    obtain ⟨x, e1, _, e2⟩ := atI_nat (xs := a) (r := (i : Int)) (by omega) (by omega)
    obtain ⟨y, e3, _, e4⟩ := atI_nat (xs := b) (r := (i : Int)) (by omega) (by omega)
    have hs := lcp_step e2 e4
    rw [show (i : Int).toNat = i from rfl] at hs
    simp -implicitDefEqProofs [hc, e1, e3, hal, hbl]
    by_cases hxy : x = y
    · rw [if_pos hxy] at hs
      simp -implicitDefEqProofs [hxy, hal, hbl]
      exact ⟨m - 1, by omega, i + 1, rfl, by omega, by omega, by omega⟩
    · rw [if_neg hxy] at hs
      simp -implicitDefEqProofs [hxy, hal, hbl]
      have : i = lcp a b := by omega
      rw [this]
      exact k _
  · have := lcp_end (a := a) (b := b) (fun h => hc (hmn.mpr h))
    simp -implicitDefEqProofs [hc, hal, hbl]
    have : i = lcp a b := by omega
    rw [this]
    exact k _
end PM
set_option Elab.async false
set_option linter.all false
set_option maxRecDepth 100000
set_option maxHeartbeats 4000000
set_option autoImplicit false
namespace PM
open PySem PySem.Spec PyProof.Rows L2
/-! ### tables -/
def nD (n : Nat) : D := .int n
theorem nD_eq (n : Nat) : nD n = .int n := rfl
theorem dc_spec0 {vs : List Nat} {tg : D → Sl → Option Sl} {mt : M Bool} {mk mv : M D} : ∀ (ds : List D) (I : Nat → List (Key × D) → Sl → Prop) (acc : List (Key × D)) (Γ : Sl) (P : List (Key × D) → Sl → Prop), I 0 acc Γ →
    (∀ i d acc Γ, ds[i]? = some d → I i acc Γ → ∃ Γ1, tg d (wipeS vs Γ) = some Γ1 ∧ wp (mt Γ1) (fun c Γ2 => if c = true then wp (mk Γ2) (fun y Γ3 => wp (mv Γ3) (fun z Γ4 => ∃ k, keyOf y = some k ∧ acc.length < line ∧ I (i + 1) (putD acc k z) Γ4)) else I (i + 1) acc Γ2)) →
    (∀ acc Γ, I ds.length acc Γ → P acc (wipeS vs Γ)) → wp (dcM vs tg mt mk mv ds acc Γ) P
  | [], I, acc, Γ, P, h0, _, hd => by
    rw [dcM_nil]
    exact hd acc Γ h0
  | d :: ds, I, acc, Γ, P, h0, hs, hd => by
    obtain ⟨Γ1, e1, w1⟩ := hs 0 d acc Γ rfl h0
    rw [dcM_cons, e1]
    show wp ((mt Γ1).bind _) _
    refine wp_bind.mpr ?_
    refine wp_mono w1 fun c Γ2 _ q => ?_
    cases c with
    | false =>
      exact dc_spec0 ds (fun i => I (i + 1)) acc Γ2 P q (fun i d acc Γ e q => hs (i + 1) d acc Γ (by simpa using e) q) (fun acc Γ q => hd acc Γ (by simpa using q))
    | true =>
      have q : wp (mk Γ2) _ := q
      show wp ((mk Γ2).bind _) _
      refine wp_bind.mpr ?_
      refine wp_mono q fun y Γ3 _ q3 => ?_
      refine wp_bind.mpr ?_
      refine wp_mono q3 fun z Γ4 _ q4 => ?_
      obtain ⟨k, e, hl, q5⟩ := q4
      rw [e]
      show wp (if acc.length < line then _ else _) _
      rw [if_pos hl]
      exact dc_spec0 ds (fun i => I (i + 1)) _ Γ4 P q5 (fun i d acc Γ e q => hs (i + 1) d acc Γ (by simpa using e) q) (fun acc Γ q => hd acc Γ (by simpa using q))
theorem dc_spec {vs : List Nat} {tg : D → Sl → Option Sl} {mt : M Bool} {mk mv : M D} {ds : List D} (I : Nat → List (Key × D) → Sl → Prop) {Γ : Sl} {P : List (Key × D) → Sl → Prop} (h0 : I 0 [] Γ)
    (hs : ∀ i d acc Γ, ds[i]? = some d → I i acc Γ → ∃ Γ1, tg d (wipeS vs Γ) = some Γ1 ∧ Wp (mt Γ1) (fun c Γ2 => if c = true then Wp (mk Γ2) (fun y Γ3 => Wp (mv Γ3) (fun z Γ4 => ∃ k, keyOf y = some k ∧ acc.length < line ∧ I (i + 1) (putD acc k z) Γ4)) else I (i + 1) acc Γ2))
    (hd : ∀ acc Γ, I ds.length acc Γ → P acc (wipeS vs Γ)) : Wp (dcM vs tg mt mk mv ds [] Γ) P :=
  ⟨dc_spec0 ds I [] Γ P h0 (fun i d acc Γ e h => by
    obtain ⟨Γ1, e1, w⟩ := hs i d acc Γ e h
    refine ⟨Γ1, e1, wp_mono w.go fun c Γ2 _ q => ?_⟩
    cases c with
    | false => exact q
    | true => exact wp_mono (Wp.go q) fun y Γ3 _ q3 => q3.go) hd⟩
def tblD (fs : List Txt) (T : Txt → Nat) : List (Key × D) := fs.map fun s => (.inr (tx s), nD (T s))
theorem key_str (s : Txt) : keyOf (.str s) = some (.inr (tx s)) := rfl
theorem tbl_get {fs : List Txt} {T : Txt → Nat} {s : Txt} (h : s ∈ fs) : getD' (tblD fs T) (.inr (tx s)) = some (nD (T s)) := by
  induction fs with
  | nil => cases h
  | cons a fs ih =>
    unfold getD' tblD
    rw [List.map_cons, List.find?_cons]
    by_cases e : a = s
    · subst e; simp
    · have : (decide ((Sum.inr (tx a) : Key) = .inr (tx s))) = false := decide_eq_false fun q => e (tx_inj.mp (Sum.inr.inj q))
      show Option.map _ (match decide ((Sum.inr (tx a) : Key) = .inr (tx s)) with | true => _ | false => _) = _
      rw [this]
      rcases List.mem_cons.mp h with h | h
      · exact absurd h.symm e
      · exact ih h
theorem tbl_put {fs : List Txt} {T : Txt → Nat} {s : Txt} (h : s ∉ fs) : putD (tblD fs T) (.inr (tx s)) (nD (T s)) = tblD (fs ++ [s]) T := by
  unfold putD
  rw [if_neg]
  · unfold tblD; simp
  · intro q
    obtain ⟨kv, h1, h2⟩ := List.any_eq_true.mp q
    obtain ⟨a, ha, rfl⟩ := List.mem_map.mp h1
    exact h (tx_inj.mp (Sum.inr.inj (of_decide_eq_true h2)) ▸ ha)
theorem dDget_tbl {fs : List Txt} {U : Txt → Nat} {s : Txt} (h : s ∈ fs) : dDget (.dK (tblD fs U)) (.str s) = some (.sh (nD (U s))) := by
  show ((keyOf (.str s)).bind (getD' (tblD fs U))).map T.sh = _
  rw [key_str]
  show (getD' (tblD fs U) (.inr (tx s))).map T.sh = _
  rw [tbl_get h]; rfl
theorem hits_tbl {fs : List Txt} {T U : Txt → Nat} : ∀ {gs : List Txt}, (∀ s ∈ gs, s ∈ fs) → hitsD (tblD fs T) (tblD gs U) = decide (∀ s ∈ gs, U s = T s)
  | [], _ => by simp [tblD, hitsD]
  | g :: gs, h => by
    have ih := hits_tbl (T := T) (U := U) fun s hs => h s (List.mem_cons_of_mem _ hs)
    show (match getD' (tblD fs T) (.inr (tx g)) with | none => false | some y => _) = _
    rw [tbl_get (h g List.mem_cons_self)]
    show ((match (nD (U g)).fv, (nD (T g)).fv with | some v, some u => eqV v u | _, _ => false) && hitsD (tblD fs T) (tblD gs U)) = _
    rw [ih]
    have : (match (nD (U g)).fv, (nD (T g)).fv with | some v, some u => eqV v u | _, _ => false) = decide (U g = T g) := by
      show ((U g : Int) == (T g : Int)) = _
      rw [Bool.eq_iff_iff, beq_iff_eq, decide_eq_true_iff]; omega
    rw [this, Bool.eq_iff_iff]
    simp
theorem dEqK_tbl {fs : List Txt} {T U : Txt → Nat} : dEqK (.dK (tblD fs U)) (.dK (tblD fs T)) = some (decide (∀ s ∈ fs, U s = T s)) := by
  have all : ∀ T : Txt → Nat, ((tblD fs T).all fun p => p.2.fv.isSome) = true := fun T => by
    rw [List.all_eq_true]
    intro p hp
    obtain ⟨a, _, rfl⟩ := List.mem_map.mp hp
    rfl
  show (if _ then some _ else none) = _
  rw [if_pos ⟨all U, all T⟩, hits_tbl fun s hs => hs]
  have : ((tblD fs U).length == (tblD fs T).length) = true := by simp [tblD]
  rw [this]; rfl
theorem ints_nD : ∀ xs : List Nat, ints? (xs.map nD) = some (xs.map (Nat.cast : Nat → Int))
  | [] => rfl
  | x :: xs => by
    show (ints? (xs.map nD)).map _ = _
    rw [ints_nD xs]; rfl
theorem maxI_mx : ∀ {xs : List Nat}, maxI (xs.map (Nat.cast : Nat → Int)) = (mx xs : Nat)
  | [] => rfl
  | [x] => by simp [maxI, mx]
  | x :: y :: xs => by
    have ih := maxI_mx (xs := y :: xs)
    show (if maxI ((y :: xs).map (Nat.cast : Nat → Int)) < (x : Int) then (x : Int) else maxI ((y :: xs).map (Nat.cast : Nat → Int))) = ((max x (mx (y :: xs)) : Nat) : Int)
    rw [ih]
    split <;> omega
theorem dMax_nD {xs : List Nat} (h : xs ≠ []) : dMax (.lst (xs.map nD)) = some (.sh (nD (mx xs))) := by
  show (ints? (xs.map nD)).bind _ = _
  rw [ints_nD]
  show (if xs.map ((Nat.cast : Nat → Int)) = [] then none else _) = _
  rw [if_neg (by simpa using h), maxI_mx]; rfl
theorem dMaxD_nD {xs : List Nat} : dMaxD 0 (.lst (xs.map nD)) = some (.sh (nD (mx xs))) := by
  show (ints? (xs.map nD)).bind _ = _
  rw [ints_nD]
  show (if xs.map ((Nat.cast : Nat → Int)) = [] then _ else _) = _
  cases xs with
  | nil => rfl
  | cons a xs =>
    rw [if_neg (by simp), maxI_mx]; rfl
theorem add_nD (m n : Nat) : dAdd (nD m) (nD n) = some (.sh (nD (m + n))) := rfl
theorem add1_nD (m : Nat) : dAdd (nD m) (.int 1) = some (.sh (nD (m + 1))) := rfl
theorem alike_behind_spec {fs : List Txt} {U : Txt → Nat} {a b : Txt} {P : T → Sl → Prop} (ha : a.length ≤ 1000) (hb : b.length ≤ 1000) (h : ∀ t, restOf a b = some t → t ∈ fs) (k : ∀ Γ', P (.sh (nD (tg1 U a b))) Γ') : wpc m_alike_behind 5 [.sh (.str a), .sh (.str b), .sh (.dK (tblD fs U))] P := by
  refine wpc_of ?_
  unfold m_alike_behind
  simp -implicitDefEqProofs [start']
  refine alike_letters_spec ha hb fun Γ1 => ?_
  skip
  refine rest_spec ha hb fun Γ2 => ?_
  unfold tg1 at k
  cases er : restOf a b with
  | none =>
    rw [er] at k
    simp -implicitDefEqProofs [optD]
    exact k _
  | some t =>
    rw [er] at k
    simp -implicitDefEqProofs [optD, dDget_tbl (h t er), ← nD_eq, add_nD]
    exact k _
end PM
set_option Elab.async false
set_option linter.all false
set_option maxRecDepth 100000
set_option maxHeartbeats 4000000
set_option autoImplicit false
namespace PM
open PySem PySem.Spec PyProof.Rows L2
def optN : Option Nat → D
  | none => .non
  | some d => nD d
@[simp] theorem wpS_dc {vs : List Nat} {mi : M (List D)} {tg : D → Sl → Option Sl} {mt : M Bool} {mk mv : M D} {Γ : Sl} {P : T → Sl → Prop} : Wp (mDc vs mi tg mt mk mv Γ) P = Wp (mi Γ) (fun ds Γ1 => Wp (dcM vs tg mt mk mv ds [] Γ1) (fun ys Γ' => P (.dk ys) Γ')) := by
  rw [mDc_ap, wpS_bind]
  congr 1
  funext ds Γ1
  rw [wpS_bind]
  congr 1
  funext ys Γ2
  exact wpS_ok
/-- a dict of one's own, or a shared one -/
def isDk (X : List (Key × D)) (t : T) : Prop := t = .dk X ∨ t = .sh (.dK X)
theorem take_snoc {fs : List Txt} {i : Nat} {s : Txt} (h : fs[i]? = some s) : fs.take (i + 1) = fs.take i ++ [s] := by
  rw [List.take_add_one, h]; rfl
theorem not_taken {fs : List Txt} (hn : fs.Nodup) {i : Nat} {s : Txt} (h : fs[i]? = some s) : s ∉ fs.take i := by
  intro hm
  have := take_snoc h
  have h2 : (fs.take (i + 1)).Nodup := hn.sublist (List.take_sublist _ _)
  rw [this, List.nodup_append] at h2
  exact h2.2.2 s hm s (List.mem_singleton.mpr rfl) rfl
def accN (f : Txt → Nat) (l : List Txt) : List D := (l.map f).map nD
theorem accN_len (f : Txt → Nat) (l : List Txt) : (accN f l).length = l.length := by simp [accN]
theorem accN_snoc (f : Txt → Nat) {l : List Txt} {j : Nat} {w : Txt} (h : l[j]? = some w) : accN f (l.take j) ++ [nD (f w)] = accN f (l.take (j + 1)) := by
  rw [take_snoc h]; simp [accN]
theorem accN_max {f : Txt → Nat} {l : List Txt} (h : l ≠ []) : dMax (.lst (accN f l)) = some (.sh (nD (mx (l.map f)))) := dMax_nD (by simpa using h)
theorem accN_maxD {f : Txt → Nat} {l : List Txt} : dMaxD 0 (.lst (accN f l)) = some (.sh (nD (mx (l.map f)))) := dMaxD_nD
def IDz (b : D) (ws fs : List Txt) (j : Nat) (acc : List (Key × D)) (Γ : Sl) : Prop := ∃ x6, Γ = [some (.sh b), some (.sh (.lst (ws.map .str))), some (.sh (.lst (fs.map .str))), none, none, none, x6, none] ∧ acc = tblD (fs.take j) (tbl ws 0)
def IDl (b : D) (ws fs : List Txt) (i : Nat) (Γ : Sl) : Prop := ∃ t3 x4 x5 x6 x7, Γ = [some (.sh b), some (.sh (.lst (ws.map .str))), some (.sh (.lst (fs.map .str))), some t3, x4, x5, x6, x7] ∧ isDk (tblD fs (tbl ws i)) t3 ∧ ∀ i' < i, ∃ s ∈ fs, tbl ws i' s ≠ tbl ws (i' + 1) s
def IDc (b : D) (ws fs : List Txt) (i : Nat) (x4 x5 : Option T) (j : Nat) (acc : List (Key × D)) (Γ : Sl) : Prop := ∃ t3 x6 x7, Γ = [some (.sh b), some (.sh (.lst (ws.map .str))), some (.sh (.lst (fs.map .str))), some t3, x4, x5, x6, x7] ∧ isDk (tblD fs (tbl ws i)) t3 ∧ acc = tblD (fs.take j) (tbl ws (i + 1))
def IDw (b : D) (ws fs : List Txt) (i : Nat) (x4 x5 : Option T) (s : Txt) (j : Nat) (acc : List D) (Γ : Sl) : Prop := ∃ t3 x7, Γ = [some (.sh b), some (.sh (.lst (ws.map .str))), some (.sh (.lst (fs.map .str))), some t3, x4, x5, some (.sh (.str s)), x7] ∧ isDk (tblD fs (tbl ws i)) t3 ∧ acc = accN (tg1 (tbl ws i) s) (ws.take j)
def IDr (b : D) (ws fs : List Txt) (i : Nat) (x4 x5 : Option T) (gs : List Txt) (j : Nat) (acc : List D) (Γ : Sl) : Prop := ∃ t3 x6 x7, Γ = [some (.sh b), some (.sh (.lst (ws.map .str))), some (.sh (.lst (fs.map .str))), some t3, x4, x5, x6, x7] ∧ isDk (tblD fs (tbl ws i)) t3 ∧ acc = accN (fun t => tbl ws i t + 1) (gs.take j)
theorem snoc_nD (xs : List Nat) (n : Nat) : xs.map nD ++ [nD n] = (xs ++ [n]).map nD := by simp
theorem delay_spec {key abc : Txt} {ws : List Txt} {P : T → Sl → Prop} (hne : ∀ w ∈ ws, w ≠ []) (hw : ∀ w ∈ ws, w.length ≤ 100) (hn : ws.length ≤ 100) (h0 : ws ≠ []) (k : ∀ o Γ', IsDelay ws o → P (.sh (optN o)) Γ') : wpc m_delay 8 [.sh (bookV key ws abc)] P := by
  refine wpc_of ?_
  unfold m_delay
  simp -implicitDefEqProofs [start']
  refine bwords_spec fun Γ1 => ?_
  simp -implicitDefEqProofs
  refine dangling_spec hw hn fun fs Γ2 hnd hfl hfs => ?_
  simp -implicitDefEqProofs [dIn_strs]
  split
  · rename_i hm
    exact k none _ (delay_dg hne ((hfs []).mp hm))
  rename_i hm
  have hds : ¬ Dg ws [] := fun h => hm ((hfs []).mpr h)
  have g : Go ws := ⟨hne, h0, hds⟩
  have hll : ∀ j, (tblD (fs.take j) (tbl ws 0)).length < line := fun j => by
    unfold tblD
    rw [List.length_map, List.length_take, line_eq]; omega
  have hll2 : ∀ i j, (tblD (fs.take j) (tbl ws i)).length < line := fun i j => by
    unfold tblD
    rw [List.length_map, List.length_take, line_eq]; omega
  refine dc_spec (IDz _ ws fs) ⟨_, rfl, rfl⟩ ?_ ?_
  · rintro j d acc Γ hj ⟨x6, rfl, rfl⟩
    obtain ⟨s, rfl, hs⟩ := strs_get hj
    refine ⟨_, rfl, ?_⟩
    simp -implicitDefEqProofs [wipeS]
    refine ⟨_, key_str s, hll j, _, rfl, ?_⟩
    rw [take_snoc hs]
    exact tbl_put (T := tbl ws 0) (not_taken hnd hs)
  rintro acc Γ ⟨x6, rfl, rfl⟩
  rw [List.length_map, List.take_length]
  have h62 : small62 ((fs.length : Int) + 1) := by unfold small62; omega
  simp -implicitDefEqProofs [wipeS, rng1_int _ h62]
  refine for_spec _ (IDl _ ws fs) _ ⟨_, _, _, _, _, rfl, .inl rfl, fun i' h => absurd h (Nat.not_lt_zero _)⟩ ?_ ?_
  · rintro i d Γ hi ⟨t3, x4, x5, x6, x7, rfl, ht3, hall⟩
    obtain ⟨rfl, hi2⟩ := ints_get hi
    refine ⟨_, rfl, ?_⟩
    simp -implicitDefEqProofs
    refine dc_spec (IDc _ ws fs i _ _) ⟨_, _, _, rfl, ht3, rfl⟩ ?_ ?_
    · rintro j d acc Γ hj ⟨t3, x6, x7, rfl, ht3, rfl⟩
      obtain ⟨s, rfl, hs⟩ := strs_get hj
      have hsm := List.mem_of_getElem? hs
      have hsd := (hfs s).mp hsm
      have hsl := dg_len hw hsd
      refine ⟨_, rfl, ?_⟩
      simp -implicitDefEqProofs [wipeS]
      refine lc0 (IDw _ ws fs i _ _ s) ⟨_, _, rfl, ht3, rfl⟩ ?_ ?_
      · rintro m d acc Γ hm ⟨t3, x7, rfl, ht3, rfl⟩
        obtain ⟨w, rfl, hwm⟩ := strs_get hm
        have hwm2 := List.mem_of_getElem? hwm
        have hwl := hw w hwm2
        refine ⟨_, rfl, ?_⟩
        have step : ∀ t, restOf s w = some t → t ∈ fs := fun t e => (hfs t).mpr (g.next hsd (fun z => hds (z ▸ hsd)) hwm2 e).1
        rcases ht3 with rfl | rfl <;> simp -implicitDefEqProofs [wipeS]
        all_goals
          refine alike_behind_spec (by omega) (by omega) step fun Γ3 => ?_
          simp -implicitDefEqProofs
          refine ⟨_, _, rfl, .inr rfl, ?_⟩
          exact accN_snoc _ hwm
      · rintro acc Γ ⟨t3, x7, rfl, ht3, rfl⟩
        rw [List.length_map, List.take_length]
        have hlen : ws.length ≤ line := by rw [line_eq]; omega
        simp -implicitDefEqProofs [accN_len, hlen, accN_max h0, wipeS]
        refine ⟨_, key_str s, hll2 _ j, _, _, _, rfl, ht3, ?_⟩
        rw [take_snoc hs]
        exact tbl_put (T := tbl ws (i + 1)) (not_taken hnd hs)
    · rintro acc Γ ⟨t3, x6, x7, rfl, ht3, rfl⟩
      rw [List.length_map, List.take_length]
      have hv : t3.v? = some (.dK (tblD fs (tbl ws i))) ∧ t3.d? = some (.dK (tblD fs (tbl ws i))) := by rcases ht3 with rfl | rfl <;> simp
      simp -implicitDefEqProofs [wipeS, hv.1, dEqK_tbl]
      split
      · rename_i hst
        refine firsts_spec hw hn fun gs Γ5 hg => ?_
        simp -implicitDefEqProofs
        have hgs : ∀ t ∈ gs, t ∈ fs := fun t ht => (hfs t).mpr (hg.dg t ht)
        refine lc0 (IDr _ ws fs i _ _ gs) ⟨_, _, _, rfl, ht3, rfl⟩ ?_ ?_
        · rintro m d acc Γ hm ⟨t3, x6, x7, rfl, ht3, rfl⟩
          obtain ⟨t, rfl, htm⟩ := strs_get hm
          have hv : t3.v? = some (.dK (tblD fs (tbl ws i))) := by rcases ht3 with rfl | rfl <;> simp
          refine ⟨_, rfl, ?_⟩
          simp -implicitDefEqProofs [wipeS, hv, dDget_tbl (hgs t (List.mem_of_getElem? htm)), add1_nD]
          refine ⟨_, _, _, rfl, ht3, ?_⟩
          exact accN_snoc (fun t => tbl ws i t + 1) htm
        · rintro acc Γ ⟨t3, x6, x7, rfl, ht3, rfl⟩
          rw [List.length_map, List.take_length]
          have hgl : gs.length ≤ line := by
            obtain ⟨h1, h2⟩ := fs_len hw hn hg.nd hg.dg
            rw [line_eq]; omega
          simp -implicitDefEqProofs [accN_len, hgl, accN_maxD, wipeS]
          refine k (some _) _ (delay_still g hfs (i := i) (fun s hs => (hst s hs).symm) (d := mx (gs.map fun t => tbl ws i t + 1)) ?_ ?_)
          · intro u v t two e
            refine mx_ge (List.mem_map.mpr ⟨t, ?_, rfl⟩)
            obtain ⟨a, b, hab, ha, hb⟩ := two
            obtain ⟨la, _⟩ := List.getElem?_eq_some_iff.mp ha
            obtain ⟨lb, _⟩ := List.getElem?_eq_some_iff.mp hb
            rcases Nat.lt_or_gt_of_ne hab with l | l
            · exact hg.all a b v u t l (.inl lb) hb ha (restOf_iff.mpr (restOf_iff.mp e).symm)
            · exact hg.all b a u v t l (.inl la) ha hb e
          · by_cases hge : gs = []
            · left; rw [hge]; rfl
            · right
              obtain ⟨t, ht, e⟩ := List.mem_map.mp (mx_mem (l := gs.map fun t => tbl ws i t + 1) (by simpa using hge))
              obtain ⟨u, v, two, e2⟩ := hg.two t ht
              exact ⟨u, v, t, two, e2, e.symm⟩
      · rename_i hst
        refine ⟨_, _, _, _, _, rfl, .inl rfl, fun i' hi' => ?_⟩
        by_cases hc : i' < i
        · exact hall i' hc
        · obtain rfl : i' = i := by omega
          refine Classical.byContradiction fun hno => hst fun s hs => ?_
          refine Classical.byContradiction fun hq => hno ⟨s, hs, fun e => hq e.symm⟩
  · rintro Γ ⟨t3, x4, x5, x6, x7, rfl, ht3, hall⟩
    rw [ints_len] at hall
    simp -implicitDefEqProofs
    exact k none _ (delay_wild g hfs fun i hi => hall i (by omega))
end PM
set_option Elab.async false
set_option linter.all false
set_option maxRecDepth 100000
set_option maxHeartbeats 4000000
set_option autoImplicit false
namespace PM
open PySem PySem.Spec PyProof.Rows L2
/-! ### plain -/
theorem others_get {ws : List Txt} {i m : Nat} {v : Txt} (hi : i < ws.length) (h : (ws.take i ++ ws.drop (i + 1))[m]? = some v) : ∃ j, j ≠ i ∧ ws[j]? = some v := by
  rw [List.getElem?_append] at h
  have hl : (ws.take i).length = i := by rw [List.length_take]; omega
  rw [hl] at h
  split at h
  · rename_i hm
    rw [List.getElem?_take_of_lt hm] at h
    exact ⟨m, by omega, h⟩
  · rw [List.getElem?_drop] at h
    exact ⟨i + 1 + (m - i), by omega, h⟩
theorem others_all {ws : List Txt} {i j : Nat} {v : Txt} (hi : i < ws.length) (hj : j ≠ i) (h : ws[j]? = some v) : ∃ m, m < (ws.take i ++ ws.drop (i + 1)).length ∧ (ws.take i ++ ws.drop (i + 1))[m]? = some v := by
  obtain ⟨hl, _⟩ := List.getElem?_eq_some_iff.mp h
  have ht : (ws.take i).length = i := by rw [List.length_take]; omega
  rcases Nat.lt_or_gt_of_ne hj with l | l
  · refine ⟨j, by rw [List.length_append, ht]; omega, ?_⟩
    rw [List.getElem?_append, ht, if_pos l, List.getElem?_take_of_lt l]; exact h
  · refine ⟨j - 1, by rw [List.length_append, ht, List.length_drop]; omega, ?_⟩
    rw [List.getElem?_append, ht, if_neg (by omega), List.getElem?_drop, show i + 1 + (j - 1 - i) = j by omega]; exact h
/-- no other one begins the word at a place -/
def Alone (ws : List Txt) (i : Nat) : Prop := ∀ j u v, j ≠ i → ws[i]? = some u → ws[j]? = some v → ¬ v <+: u
theorem plain_of {ws : List Txt} (h : ∀ i < ws.length, Alone ws i) : Plain ws := by
  intro u v ⟨i, j, hij, hi, hj⟩
  obtain ⟨l, _⟩ := List.getElem?_eq_some_iff.mp hi
  exact h i l j u v (Ne.symm hij) hi hj
def IPo (b : D) (ws : List Txt) (i : Nat) (Γ : Sl) : Prop := ∃ x2 x3 x4, Γ = [some (.sh b), some (.sh (.lst (ws.map .str))), x2, x3, x4] ∧ ∀ i' < i, Alone ws i'
def IPn (b : D) (ws : List Txt) (i : Nat) (w : Txt) (m : Nat) (Γ : Sl) : Prop := ∃ x4, Γ = [some (.sh b), some (.sh (.lst (ws.map .str))), some (.sh (.int i)), some (.sh (.str w)), x4] ∧ ∀ m' < m, ∀ v, (ws.take i ++ ws.drop (i + 1))[m']? = some v → ¬ v <+: w
theorem others_map (ws : List Txt) (i : Nat) : List.take i (ws.map D.str) ++ List.drop (i + 1) (ws.map D.str) = (ws.take i ++ ws.drop (i + 1)).map D.str := by simp
theorem plain_spec {key abc : Txt} {ws : List Txt} {P : T → Sl → Prop} (hn : ws.length ≤ 100) (k : ∀ b Γ', (b = true ↔ Plain ws) → P (.sh (.bl b)) Γ') : wpc m_is_plain 5 [.sh (bookV key ws abc)] P := by
  refine wpc_of ?_
  unfold m_is_plain
  simp -implicitDefEqProofs [start']
  refine bwords_spec fun Γ1 => ?_
  simp -implicitDefEqProofs
  refine for_spec _ (IPo _ ws) _ ⟨_, _, _, rfl, fun i' h => absurd h (Nat.not_lt_zero _)⟩ ?_ ?_
  · rintro i d Γ hi ⟨x2, x3, x4, rfl, hall⟩
    obtain ⟨e, rfl, he⟩ := enum_get hi
    obtain ⟨w, rfl, hwi⟩ := strs_get he
    obtain ⟨hil, _⟩ := List.getElem?_eq_some_iff.mp hwi
    refine ⟨_, rfl, ?_⟩
    have hi1 : ((i : Int) + 1).toNat = i + 1 := by omega
    simp -implicitDefEqProofs [cut_to _ (show (0 : Int) ≤ i by omega), cut_from _ (show (0 : Int) ≤ (i : Int) + 1 by omega), hi1]
    refine ⟨by rw [line_eq]; omega, ?_⟩
    rw [← List.map_take, ← List.map_drop, ← List.map_append]
    refine for_spec _ (IPn _ ws i w) _ ⟨_, rfl, fun m' h => absurd h (Nat.not_lt_zero _)⟩ ?_ ?_
    · rintro m d Γ hm ⟨x4, rfl, hin⟩
      obtain ⟨v, rfl, hvm⟩ := strs_get hm
      refine ⟨_, rfl, ?_⟩
      obtain ⟨j, hji, hj⟩ := others_get hil hvm
      by_cases hp : v.isPrefixOf w = true
      · simp -implicitDefEqProofs [hp]
        refine k false _ ?_
        constructor
        · intro h; cases h
        · intro h
          exact absurd (List.isPrefixOf_iff_prefix.mp hp) (h w v ⟨i, j, Ne.symm hji, hwi, hj⟩)
      · simp -implicitDefEqProofs [hp]
        refine ⟨_, rfl, fun m' hm' u hu => ?_⟩
        by_cases hc : m' < m
        · exact hin m' hc u hu
        · obtain rfl : m' = m := by omega
          rw [hvm] at hu; cases hu
          exact fun q => hp (List.isPrefixOf_iff_prefix.mpr q)
    · rintro Γ ⟨x4, rfl, hin⟩
      refine ⟨_, _, _, rfl, fun i' hi' => ?_⟩
      by_cases hc : i' < i
      · exact hall i' hc
      · obtain rfl : i' = i := by omega
        intro j u v hj hu hv
        rw [hwi] at hu; cases hu
        obtain ⟨m, hm, e⟩ := others_all hil hj hv
        exact hin m (by rw [List.length_map]; exact hm) v e
  · rintro Γ ⟨x2, x3, x4, rfl, hall⟩
    rw [enum_len, List.length_map] at hall
    simp -implicitDefEqProofs
    exact k true _ ⟨fun _ => plain_of hall, fun _ => rfl⟩
def ILo (ws : List Txt) (i : Nat) (Γ : Sl) : Prop := ∃ x1 x2, Γ = [some (.sh (.lst (ws.map .str))), x1, x2] ∧ ∀ i' < i, Alone ws i'
def ILi (ws : List Txt) (i m : Nat) (Γ : Sl) : Prop := ∃ x2, Γ = [some (.sh (.lst (ws.map .str))), some (.sh (.int i)), x2] ∧ ∀ j < m, ∀ u v, j ≠ i → ws[i]? = some u → ws[j]? = some v → ¬ v <+: u
theorem lplain_spec {ws : List Txt} {P : T → Sl → Prop} (hw : ∀ w ∈ ws, w.length ≤ 100) (hn : ws.length ≤ 100) (k : ∀ b Γ', (b = true ↔ Plain ws) → P (.sh (.bl b)) Γ') : wpc m__law_is_plain 3 [.sh (.lst (ws.map .str))] P := by
  refine wpc_of ?_
  unfold m__law_is_plain
  have h62 : small62 (ws.length : Int) := by unfold small62; omega
  simp -implicitDefEqProofs [start', rng1_int _ h62]
  refine for_spec _ (ILo ws) _ ⟨_, _, rfl, fun i' h => absurd h (Nat.not_lt_zero _)⟩ ?_ ?_
  · rintro i d Γ hi ⟨x1, x2, rfl, hall⟩
    obtain ⟨rfl, hi2⟩ := ints_get hi
    have hi2 : i < ws.length := hi2
    refine ⟨_, rfl, ?_⟩
    simp -implicitDefEqProofs [rng1_int _ h62]
    refine for_spec _ (ILi ws i) _ ⟨_, rfl, fun m' h => absurd h (Nat.not_lt_zero _)⟩ ?_ ?_
    · rintro j d Γ hj ⟨x2, rfl, hin⟩
      obtain ⟨rfl, hj2⟩ := ints_get hj
      have hj2 : j < ws.length := hj2
      obtain ⟨u, e1, hu, e2⟩ := atI_map (ws := ws) (r := (i : Int)) (by omega) (by omega)
      obtain ⟨v, e3, hv, e4⟩ := atI_map (ws := ws) (r := (j : Int)) (by omega) (by omega)
      have e2 : ws[i]? = some u := e2
      have e4 : ws[j]? = some v := e4
      have hul : u.length ≤ line := by have := hw u hu; rw [line_eq]; omega
      have hvl : v.length ≤ line := by have := hw v hv; rw [line_eq]; omega
      refine ⟨_, rfl, ?_⟩
      by_cases hji : j = i
      · subst hji
        simp -implicitDefEqProofs
        refine ⟨_, rfl, fun j' hj' a b hne ha hb => ?_⟩
        exact hin j' (by omega) a b hne ha hb
      · have hji2 : ¬ (j : Int) = i := by omega
        by_cases hp : v <+: u
        · have hp2 : u.take v.length = v := (List.prefix_iff_eq_take.mp hp).symm
          simp -implicitDefEqProofs [hji, hji2, e1, e3, hul, hvl, cut_to _ (show (0 : Int) ≤ v.length by omega), hp2]
          refine k false _ ?_
          constructor
          · intro h; cases h
          · intro h; exact absurd hp (h u v ⟨i, j, Ne.symm hji, e2, e4⟩)
        · have hp2 : ¬ u.take v.length = v := fun e => hp (List.prefix_iff_eq_take.mpr e.symm)
          simp -implicitDefEqProofs [hji, hji2, e1, e3, hul, hvl, cut_to _ (show (0 : Int) ≤ v.length by omega), hp2]
          refine ⟨_, rfl, fun j' hj' a b hne ha hb => ?_⟩
          by_cases hc : j' < j
          · exact hin j' hc a b hne ha hb
          · obtain rfl : j' = j := by omega
            rw [e2] at ha; rw [e4] at hb
            cases ha; cases hb
            exact hp
    · rintro Γ ⟨x2, rfl, hin⟩
      rw [ints_len] at hin
      refine ⟨_, _, rfl, fun i' hi' => ?_⟩
      by_cases hc : i' < i
      · exact hall i' hc
      · obtain rfl : i' = i := by omega
        intro j u v hj hu hv
        obtain ⟨l, _⟩ := List.getElem?_eq_some_iff.mp hv
        exact hin j (by omega) u v hj hu hv
  · rintro Γ ⟨x1, x2, rfl, hall⟩
    rw [ints_len] at hall
    simp -implicitDefEqProofs
    exact k true _ ⟨fun _ => plain_of fun i hi => hall i (by omega), fun _ => rfl⟩
end PM
set_option Elab.async false
set_option linter.all false
set_option maxRecDepth 100000
set_option maxHeartbeats 4000000
set_option autoImplicit false
namespace PM
open PySem PySem.Spec PyProof.Rows L2
/-! ### the layers -/
def pD (p : Pr) : D := .tup [.str p.1, .str p.2]
theorem pD_key (p : Pr) : ∃ k, keyD txtShape (pD p) = some k := by
  unfold pD
  simp [keyD, keyI]
theorem pD_inj {p q : Pr} (h : pD p = pD q) : p = q := by
  unfold pD at h
  simp at h
  exact Prod.ext h.1 h.2
theorem pDs_of : ∀ {S : List D}, (∀ d ∈ S, ∃ p, d = pD p) → ∃ L : List Pr, S = L.map pD
  | [], _ => ⟨[], rfl⟩
  | d :: S, h => by
    obtain ⟨p, rfl⟩ := h d List.mem_cons_self
    obtain ⟨L, rfl⟩ := pDs_of fun x hx => h x (List.mem_cons_of_mem _ hx)
    exact ⟨p :: L, rfl⟩
theorem sorted_pairs {ps M : List Pr} (hM : M.length < 1000) (h : ∀ p ∈ ps, p ∈ M) : ∃ L : List Pr, dSortedSet (.lst (ps.map pD)) = some (.fl (L.map pD)) ∧ L.Nodup ∧ ∀ p, p ∈ L ↔ p ∈ ps := by
  have hk : ∀ d ∈ ps.map pD, ∃ k, keyD txtShape d = some k := fun d hd => by
    obtain ⟨p, _, rfl⟩ := List.mem_map.mp hd
    exact pD_key p
  have h1 : keyed txtShape (ps.map pD) = true := by
    unfold keyed
    rw [List.all_eq_true]
    intro d hd
    obtain ⟨k, e⟩ := hk d hd
    rw [e]; rfl
  have h2 : (nubD (ps.map pD)).length < 1000 := by
    have := len_le (m := M.map pD) (nub_nodup (ds := ps.map pD)) fun d hd => by
      obtain ⟨p, hp, rfl⟩ := List.mem_map.mp (nub_sub hd)
      exact List.mem_map.mpr ⟨p, h p hp, rfl⟩
    rw [List.length_map] at this
    omega
  have pm := sortT_perm (ltD txtShape) (nubD (ps.map pD))
  obtain ⟨L, eL⟩ := pDs_of (S := sortT (ltD txtShape) (nubD (ps.map pD))) fun d hd => by
    obtain ⟨p, hp, rfl⟩ := List.mem_map.mp (nub_sub (pm.mem_iff.mp hd))
    exact ⟨p, rfl⟩
  refine ⟨L, ?_, ?_, fun p => ?_⟩
  · rw [← eL]
    exact if_pos ⟨h1, h2⟩
  · have hn : (L.map pD).Nodup := eL ▸ pm.nodup_iff.mpr nub_nodup
    rw [List.nodup_iff_pairwise_ne, List.pairwise_map] at hn
    exact hn.imp fun hne e => hne (by rw [e])
  · constructor
    · intro hp
      have : pD p ∈ sortT (ltD txtShape) (nubD (ps.map pD)) := eL ▸ List.mem_map.mpr ⟨p, hp, rfl⟩
      obtain ⟨q, hq, e⟩ := List.mem_map.mp (nub_sub (pm.mem_iff.mp this))
      rw [← pD_inj e]; exact hq
    · intro hp
      have : pD p ∈ L.map pD := eL ▸ pm.mem_iff.mpr (nub_all hk (List.mem_map.mpr ⟨p, hp, rfl⟩))
      obtain ⟨q, hq, e⟩ := List.mem_map.mp this
      rw [← pD_inj e]; exact hq
/-- an end of a word -/
def InS (ws : List Tx) (t : Tx) : Prop := t ≠ [] ∧ ∃ w ∈ ws, t <:+ w
theorem InS.mem {ws : List Tx} {t : Tx} (h : InS ws t) : t ∈ allS ws := by
  obtain ⟨h0, w, hw, hs⟩ := h
  exact List.mem_flatMap.mpr ⟨w, hw, sufs_mem h0 hs⟩
theorem InS.len {ws : List Tx} {t : Tx} (h : InS ws t) {n : Nat} (hw : ∀ w ∈ ws, w.length ≤ n) : t.length ≤ n := by
  obtain ⟨h0, w, hm, hs⟩ := h
  exact Nat.le_trans hs.length_le (hw w hm)
theorem InS.nxt {ws : List Tx} (hne : ∀ w ∈ ws, w ≠ []) {a : Nat} {l l' : Tx} (h : InS ws (a :: l)) (hn : l' ∈ nxt ws l) : InS ws l' := by
  unfold PM.nxt at hn
  split at hn
  · exact ⟨hne l' hn, l', hn, List.suffix_refl _⟩
  · rename_i h0
    rw [List.mem_singleton] at hn
    subst hn
    obtain ⟨_, w, hw, hs⟩ := h
    exact ⟨h0, w, hw, (List.suffix_cons _ _).trans hs⟩
theorem Ss.inS {ws : List Tx} (hne : ∀ w ∈ ws, w ≠ []) {n : Nat} {p q : Pr} (s : Ss ws n p q) : InS ws p.1 → InS ws p.2 → InS ws q.1 ∧ InS ws q.2 := by
  induction s with
  | nil => exact fun h1 h2 => ⟨h1, h2⟩
  | cons s _ ih =>
    intro h1 h2
    cases s with
    | mk g1 g2 g3 => exact ih (h1.nxt hne g1) (h2.nxt hne g2)
def pairsS (ws : List Tx) : List Pr := (allS ws).flatMap fun s => (allS ws).map fun t => (s, t)
theorem prod_len (l m : List Tx) : (l.flatMap fun s => m.map fun t => (s, t)).length = l.length * m.length := by
  induction l with
  | nil => simp
  | cons a l ih => rw [List.flatMap_cons, List.length_append, ih, List.length_map, List.length_cons, Nat.add_mul]; omega
theorem pairsS_len {ws : List Tx} (hw : ∀ w ∈ ws, w.length ≤ 5) (hn : ws.length ≤ 4) : (pairsS ws).length ≤ 400 := by
  have h1 := allS_len hw
  have h2 : (allS ws).length ≤ 20 := by omega
  unfold pairsS
  rw [prod_len]
  exact Nat.mul_le_mul h2 h2
theorem pairsS_mem {ws : List Tx} {q : Pr} (h : InS ws q.1 ∧ InS ws q.2) : q ∈ pairsS ws :=
  List.mem_flatMap.mpr ⟨q.1, h.1.mem, List.mem_map.mpr ⟨q.2, h.2.mem, rfl⟩⟩
/-! #### a piece that goes on -/
def pcT (ws : List Txt) (s : Txt) : T := if 1 < s.length then .fl [.str (s.drop 1)] else .sh (.lst (ws.map .str))
theorem pcT_d {ws : List Txt} {a : Nat} {l : Txt} : (pcT ws (a :: l)).d? = some (.lst ((nxt ws l).map .str)) := by
  unfold pcT nxt
  cases l with
  | nil => simp
  | cons b l => simp
def mPc (i : Nat) : M T := mIf (mTe dGt (mTwo (fz (mUn dLen (mVw i))) (M.pure (.int 1)))) (mLst (mCons (fz (mSl (mVw i) (mPart (M.pure (.int 1))) (fun _ => some none))) (M.pure []))) (shM (mVar 0))
theorem one_le_line : 1 ≤ line := by rw [line_eq]; omega
theorem two_le_line' : 2 ≤ line := by rw [line_eq]; omega
theorem mPc_eq {ws : List Txt} {s : Txt} {i : Nat} {Γ : Sl} (hs : s.length ≤ line) (h0 : Γ[0]? = some (some (.sh (.lst (ws.map .str))))) (hi : Γ[i]? = some (some (.sh (.str s)))) : mPc i Γ = .ok (pcT ws s) Γ := by
  unfold mPc pcT
  simp [h0, hi, hs, opt, cut_from _ (show (0 : Int) ≤ 1 by decide), R.bind]
  split
  · rename_i h
    simp [h0, hi, hs, h, opt, R.bind, one_le_line, cut_from _ (show (0 : Int) ≤ 1 by decide)]
    omega
  · rename_i h
    simp [h0, hi, hs, h, opt, R.bind]
    omega
end PM
set_option Elab.async false
set_option linter.all false
set_option maxRecDepth 100000
set_option maxHeartbeats 4000000
set_option autoImplicit false
namespace PM
open PySem PySem.Spec PyProof.Rows L2
/-- the layer after so many steps -/
structure Lay (ws : List Txt) (p : Pr) (n : Nat) (L : List Pr) : Prop where
  ne : L ≠ []
  nd : L.Nodup
  mem : ∀ q, q ∈ L ↔ Ss ws n p q
  no : ∀ m q, m < n → Ss ws m p q → ¬ Co q
/-- the next layer, after some of this one -/
structure Lng (ws : List Txt) (L : List Pr) (m : Nat) (ps : List Pr) : Prop where
  mem : ∀ q, q ∈ ps ↔ ∃ m' p', m' < m ∧ L[m']? = some p' ∧ St ws p' q
  no : ∀ m' p', m' < m → L[m']? = some p' → ¬ Co p'
  len : ps.length ≤ 4 * m
def ALy (ws : List Txt) (u v : Txt) (most : Nat) (n : Nat) (Γ : Sl) : Prop := ∃ L : List Pr, ∃ x5 x6 x7 x8 x9 x10 x11 x12, Γ = [some (.sh (.lst (ws.map .str))), some (.sh (.str u)), some (.sh (.str v)), some (.sh (.int (most : Int))), some (.fl (L.map pD)), x5, x6, x7, x8, x9, x10, x11, x12] ∧ Lay ws (u, v) n L
def ALg (ws : List Txt) (u v : Txt) (most n : Nat) (L : List Pr) (m : Nat) (Γ : Sl) : Prop := ∃ ps : List Pr, ∃ x7 x8 x9 x10 x11 x12, Γ = [some (.sh (.lst (ws.map .str))), some (.sh (.str u)), some (.sh (.str v)), some (.sh (.int (most : Int))), some (.sh (.lst (L.map pD))), some (.sh (.int n)), some (.fl (ps.map pD)), x7, x8, x9, x10, x11, x12] ∧ Lng ws L m ps
def APc (ws : List Txt) (u v : Txt) (most n : Nat) (L : List Pr) (s t : Txt) (ls rs : List Txt) (p0 : List Pr) (a : Nat) (Γ : Sl) : Prop := ∃ ps : List Pr, ∃ t10 x11 x12, Γ = [some (.sh (.lst (ws.map .str))), some (.sh (.str u)), some (.sh (.str v)), some (.sh (.int (most : Int))), some (.sh (.lst (L.map pD))), some (.sh (.int n)), some (.fl (ps.map pD)), some (.sh (.str s)), some (.sh (.str t)), some (.sh (.lst (ls.map .str))), some t10, x11, x12] ∧ t10.d? = some (.lst (rs.map .str)) ∧ (∀ q : Pr, q ∈ ps ↔ q ∈ p0 ∨ ∃ a', a' < a ∧ ls[a']? = some q.1 ∧ q.2 ∈ rs) ∧ ps.length ≤ p0.length + a * rs.length
def APt (Γ0 : Sl) (s : Txt) (rs : List Txt) (b : Nat) (acc : List D) (Γ : Sl) : Prop := ∃ x12, Γ = Γ0 ++ [x12] ∧ acc = ((rs.take b).map fun t => (s, t)).map pD
theorem dEq_pairs {ps : List Pr} (hl : ps.length ≤ 4000) (h : ∀ p ∈ ps, (p.1.length ≤ 5 ∧ ∀ c ∈ p.1, c < 1000) ∧ p.2.length ≤ 5 ∧ ∀ c ∈ p.2, c < 1000) : dEq (.lst (ps.map pD)) (.lst []) = some (decide (ps = [])) := by
  have e1 : Sh 2 500000 (.lst (ps.map pD)) := by
    refine .mono (Sh.lst (k := 1) (c := 112) fun d hd => ?_) (by decide) (by rw [List.length_map]; omega)
    obtain ⟨p, hp, rfl⟩ := List.mem_map.mp hd
    obtain ⟨⟨h1, h2⟩, h3, h4⟩ := h p hp
    refine .mono (Sh.tup (k := 0) (c := 52) fun d hd => ?_) (by decide) (by simp)
    simp at hd
    rcases hd with rfl | rfl
    · exact .mono (.str h2) (by decide) (by omega)
    · exact .mono (.str h4) (by decide) (by omega)
  have e2 : Sh 1 4 (.lst []) := .mono (Sh.lst (k := 0) (c := 0) (xs := []) fun d hd => by cases hd) (by decide) (by decide)
  have ex : D.exacts (ps.map pD) = true := by
    clear e1 hl h
    induction ps with
    | nil => rfl
    | cons p ps ih => show (D.exact (pD p) && D.exacts (ps.map pD)) = true; rw [ih]; rfl
  obtain ⟨b, e, hb⟩ := dEq_seq e1 e2 (by decide) (by decide) (by simpa [D.exact] using ex) rfl (fun _ _ h => by cases h) (fun _ _ h => by cases h)
  rw [e]
  congr 1
  rw [Bool.eq_iff_iff, hb, decide_eq_true_iff]
  simp
theorem tgPr (p : Pr) (Γ : Sl) : tgT (tgsC (tgN 7) (tgsC (tgN 8) tgs0)) (pD p) Γ = (tgN 7 (.str p.1) Γ).bind (fun Γ1 => (tgN 8 (.str p.2) Γ1).bind fun Γ2 => some Γ2) := by
  rfl
end PM
set_option Elab.async false
set_option linter.all false
set_option maxRecDepth 100000
set_option maxHeartbeats 4000000
set_option autoImplicit false
namespace PM
open PySem PySem.Spec PyProof.Rows L2
theorem tgPr7 (p : Pr) (Γ : Sl) : tgT (tgsC (tgN 7) (tgsC (tgN 8) tgs0)) (pD p) Γ = (setS 7 (.sh (.str p.1)) Γ).bind (setS 8 (.sh (.str p.2))) := by
  rw [tgPr]
  simp only [tgN_ap]
  cases setS 7 (.sh (.str p.1)) Γ with
  | none => rfl
  | some Γ1 =>
    show (setS 8 (.sh (.str p.2)) Γ1).bind some = setS 8 (.sh (.str p.2)) Γ1
    cases setS 8 (.sh (.str p.2)) Γ1 <;> rfl
def accP (s : Txt) (l : List Txt) : List D := (l.map fun t => (s, t)).map pD
theorem accP_len (s : Txt) (l : List Txt) : (accP s l).length = l.length := by simp [accP]
theorem accP_snoc (s : Txt) {l : List Txt} {j : Nat} {w : Txt} (h : l[j]? = some w) : accP s (l.take j) ++ [D.tup [.str s, .str w]] = accP s (l.take (j + 1)) := by
  rw [take_snoc h]; simp [accP, pD]
theorem accP_app (ps : List Pr) (s : Txt) (l : List Txt) : ps.map pD ++ accP s l = (ps ++ l.map fun t => (s, t)).map pD := by simp [accP]
theorem fExt_lst (ds es : List D) : fExt ds [.lst es] = if ds.length + es.length ≤ line then some (ds ++ es, .non) else none := rfl
def APq (Γ0 : Sl) (s : Txt) (rs : List Txt) (b : Nat) (acc : List D) (Γ : Sl) : Prop := ∃ x12, Γ = Γ0 ++ [x12] ∧ acc = accP s (rs.take b)
theorem ite2 {c1 c2 : Prop} [Decidable c1] [Decidable c2] {A B : Prop} (h : ¬ (c1 ∧ c2)) (b : B) : if c1 then (if c2 then A else B) else B := by
  by_cases h1 : c1
  · rw [if_pos h1, if_neg fun h2 => h ⟨h1, h2⟩]; exact b
  · rw [if_neg h1]; exact b
theorem snoc_pD (ps : List Pr) (s t : Txt) : ps.map pD ++ [D.tup [.str s, .str t]] = (ps ++ [(s, t)]).map pD := by simp [pD]
theorem alike_spec {ws : List Txt} {u v : Txt} {most : Nat} {P : T → Sl → Prop} (hne : ∀ w ∈ ws, w ≠ []) (hw : ∀ w ∈ ws, w.length ≤ 5) (ht : ∀ w ∈ ws, ∀ c ∈ w, c < 1000) (hn : ws.length ≤ 4) (hu : u ∈ ws) (hv : v ∈ ws) (hm : most < 10 ^ 6)
    (k : ∀ res Γ', Out' ws (u, v) most res → P (.sh (.int (res : Int))) Γ') : wpc m__law_alike 13 [.sh (.lst (ws.map .str)), .sh (.str u), .sh (.str v), .sh (.int (most : Int))] P := by
  refine wpc_of ?_
  unfold m__law_alike
  have e7 : (mIf (mTe dGt (mTwo (fz (mUn dLen (mVw 7))) (M.pure (.int 1)))) (mLst (mCons (fz (mSl (mVw 7) (mPart (M.pure (.int 1))) (fun _ => some none))) (M.pure []))) (shM (mVar 0))) = mPc 7 := rfl
  have e8 : (mIf (mTe dGt (mTwo (fz (mUn dLen (mVw 8))) (M.pure (.int 1)))) (mLst (mCons (fz (mSl (mVw 8) (mPart (M.pure (.int 1))) (fun _ => some none))) (M.pure []))) (shM (mVar 0))) = mPc 8 := rfl
  rw [e7, e8]
  have h62 : small62 ((most : Int) + 1) := by unfold small62; omega
  have hin : ∀ {n q}, Ss ws n (u, v) q → InS ws q.1 ∧ InS ws q.2 := fun s => s.inS hne ⟨hne u hu, u, hu, List.suffix_refl _⟩ ⟨hne v hv, v, hv, List.suffix_refl _⟩
  have lays : ∀ {n L}, Lay ws (u, v) n L → L.length ≤ 400 := fun {n L} h => by
    have := len_le (m := pairsS ws) h.nd fun q hq => pairsS_mem (hin ((h.mem q).mp hq))
    have := pairsS_len hw hn
    omega
  simp -implicitDefEqProofs [start', one_le_line, two_le_line', rng1_int _ h62]
  refine for_spec _ (ALy ws u v most) _ ⟨[(u, v)], _, _, _, _, _, _, _, _, rfl, List.cons_ne_nil _ _, by simp, ?_, ?_⟩ ?_ ?_
  · intro q
    rw [List.mem_singleton]
    constructor
    · rintro rfl; exact .nil _
    · intro h; cases h; rfl
  · intro m q hm; exact absurd hm (Nat.not_lt_zero _)
  · rintro n d Γ hi ⟨L, x5, x6, x7, x8, x9, x10, x11, x12, rfl, hL⟩
    obtain ⟨rfl, hi2⟩ := ints_get hi
    have hn2 : n ≤ most := by omega
    have hLl := lays hL
    refine ⟨_, rfl, ?_⟩
    simp -implicitDefEqProofs
    refine for_spec _ (ALg ws u v most n L) _ ⟨[], _, _, _, _, _, _, rfl, fun q => ⟨(fun h => absurd h (by simp)), (fun ⟨m', p', h, _⟩ => absurd h (Nat.not_lt_zero _))⟩, fun m' p' h => absurd h (Nat.not_lt_zero _), Nat.zero_le _⟩ ?_ ?_
    · rintro m d Γ hj ⟨ps, x7, x8, x9, x10, x11, x12, rfl, hps⟩
      rw [List.getElem?_map] at hj
      obtain ⟨⟨s, t⟩, hst, rfl⟩ := Option.map_eq_some_iff.mp hj
      have hSs := (hL.mem _).mp (List.mem_of_getElem? hst)
      obtain ⟨hs1, ht1⟩ := hin hSs
      have hs1 : InS ws s := hs1
      have ht1 : InS ws t := ht1
      have hsl := hs1.len hw
      have htl := ht1.len hw
      obtain ⟨hml, _⟩ := List.getElem?_eq_some_iff.mp hst
      obtain ⟨a, l, rfl⟩ := List.exists_cons_of_ne_nil hs1.1
      obtain ⟨b, r, rfl⟩ := List.exists_cons_of_ne_nil ht1.1
      refine ⟨_, tgPr7 _ _, ?_⟩
      have hsl2 : (a :: l).length ≤ line := by rw [line_eq]; omega
      have htl2 : (b :: r).length ≤ line := by rw [line_eq]; omega
      have ix0 : ∀ (c : Nat) (z : Txt), atI (c :: z) 0 = some c := fun c z => by simp [atI, ixN]; all_goals omega
      have keep : ¬ (∃ q, St ws (a :: l, b :: r) q) → ¬ Co (a :: l, b :: r) → Lng ws L (m + 1) ps := fun h hc => by
        refine ⟨fun q => ?_, fun m' p' hm' hp' => ?_, by have := hps.len; omega⟩
        · rw [hps.mem]
          constructor
          · rintro ⟨m', p', h1, h2, h3⟩; exact ⟨m', p', by omega, h2, h3⟩
          · rintro ⟨m', p', h1, h2, h3⟩
            by_cases hc : m' < m
            · exact ⟨m', p', hc, h2, h3⟩
            · obtain rfl : m' = m := by omega
              rw [hst] at h2; cases h2
              exact absurd ⟨q, h3⟩ h
        · by_cases hc2 : m' < m
          · exact hps.no m' p' hc2 hp'
          · obtain rfl : m' = m := by omega
            rw [hst] at hp'; cases hp'
            exact hc
      have hsl3 : l.length + 1 ≤ line := hsl2
      have htl3 : r.length + 1 ≤ line := htl2
      simp -implicitDefEqProofs [hsl3, htl3, ix0]
      by_cases hab : a = b
      · subst hab
        simp -implicitDefEqProofs
        rw [mPc_eq (ws := ws) (s := a :: l) hsl2 rfl rfl]
        simp -implicitDefEqProofs
        rw [mPc_eq (ws := ws) (s := a :: r) htl2 rfl rfl]
        simp -implicitDefEqProofs [hsl3, htl3]
        by_cases hco : l = [] ∧ r = []
        · obtain ⟨rfl, rfl⟩ := hco
          simp -implicitDefEqProofs
          exact k (most + 1) _ (.inr ⟨rfl, .inl ⟨n, _, hSs, a, rfl⟩⟩)
        refine ite2 (fun h => hco ⟨List.length_eq_zero_iff.mp (by omega), List.length_eq_zero_iff.mp (by omega)⟩) ?_
        simp -implicitDefEqProofs [pcT_d]
        have hpl := hps.len
        have hll : (nxt ws l).length * (nxt ws r).length ≤ 4 := by
          unfold nxt
          by_cases hl0 : l = []
          · rw [if_pos hl0, if_neg (fun h => hco ⟨hl0, h⟩)]
            simp; omega
          · rw [if_neg hl0]
            split
            · simp; omega
            · simp
        refine for_spec _ (APc ws u v most n L (a :: l) (a :: r) (nxt ws l) (nxt ws r) ps) _ ⟨ps, _, _, _, rfl, pcT_d, fun q => ⟨.inl, fun h => h.elim id fun ⟨a', h, _⟩ => absurd h (Nat.not_lt_zero _)⟩, by omega⟩ ?_ ?_
        · rintro i d Γ hj ⟨pa, t10, x11, x12, rfl, ht10, hpa, hpal⟩
          obtain ⟨piece, rfl, hpi⟩ := strs_get hj
          have hil : i < (nxt ws l).length := (List.getElem?_eq_some_iff.mp hpi).1
          have hil2 : (i + 1) * (nxt ws r).length ≤ 4 := Nat.le_trans (Nat.mul_le_mul_right _ hil) hll
          refine ⟨_, rfl, ?_⟩
          simp -implicitDefEqProofs [ht10]
          refine lc0 (APq [some (.sh (.lst (ws.map .str))), some (.sh (.str u)), some (.sh (.str v)), some (.sh (.int (most : Int))), some (.sh (.lst (L.map pD))), some (.sh (.int n)), some (.fl (pa.map pD)), some (.sh (.str (a :: l))), some (.sh (.str (a :: r))), some (.sh (.lst ((nxt ws l).map .str))), some (.sh (.lst ((nxt ws r).map .str))), some (.sh (.str piece))] piece (nxt ws r)) ⟨_, rfl, rfl⟩ ?_ ?_
          · rintro j d acc Γ hj ⟨x12, rfl, rfl⟩
            obtain ⟨part, rfl, hpj⟩ := strs_get hj
            refine ⟨_, rfl, ?_⟩
            simp -implicitDefEqProofs [wipeS, two_le_line']
            refine ⟨_, rfl, ?_⟩
            exact accP_snoc _ hpj
          · rintro acc Γ ⟨x12, rfl, rfl⟩
            rw [List.length_map, List.take_length]
            have hrl : (nxt ws r).length ≤ line := by
              have : (nxt ws r).length ≤ 4 := by
                unfold nxt
                split
                · exact hn
                · simp
              rw [line_eq]; omega
            have hpx : pa.length + (nxt ws r).length ≤ line := by
              rw [Nat.add_mul] at hil2
              rw [line_eq]; omega
            simp -implicitDefEqProofs [wipeS, fExt_lst, accP_len, hpx, hrl]
            rw [accP_app]
            refine ⟨_, _, _, _, rfl, rfl, fun q => ?_, ?_⟩
            · rw [List.mem_append, hpa]
              constructor
              · rintro ((h | ⟨a', h1, h2, h3⟩) | h)
                · exact .inl h
                · exact .inr ⟨a', by omega, h2, h3⟩
                · obtain ⟨t, ht2, rfl⟩ := List.mem_map.mp h
                  exact .inr ⟨i, by omega, hpi, ht2⟩
              · rintro (h | ⟨a', h1, h2, h3⟩)
                · exact .inl (.inl h)
                · by_cases hc : a' < i
                  · exact .inl (.inr ⟨a', hc, h2, h3⟩)
                  · obtain rfl : a' = i := by omega
                    rw [hpi] at h2
                    obtain ⟨q1, q2⟩ := q
                    cases h2
                    exact .inr (List.mem_map.mpr ⟨q2, h3, rfl⟩)
            · rw [List.length_append, List.length_map, Nat.add_mul]
              omega
        · rintro Γ ⟨pa, t10, x11, x12, rfl, ht10, hpa, hpal⟩
          rw [List.length_map] at hpa hpal
          refine ⟨pa, _, _, _, _, _, _, rfl, fun q => ?_, fun m' p' hm' hp' => ?_, by omega⟩
          · rw [hpa, hps.mem]
            constructor
            · rintro (⟨m', p', h1, h2, h3⟩ | ⟨a', h1, h2, h3⟩)
              · exact ⟨m', p', by omega, h2, h3⟩
              · exact ⟨m, _, by omega, hst, .mk (List.mem_of_getElem? h2) h3 hco⟩
            · rintro ⟨m', p', h1, h2, h3⟩
              by_cases hc : m' < m
              · exact .inl ⟨m', p', hc, h2, h3⟩
              · obtain rfl : m' = m := by omega
                rw [hst] at h2; cases h2
                cases h3 with
                | mk g1 g2 g3 =>
                  obtain ⟨a', h5⟩ := List.getElem?_of_mem g1
                  exact .inr ⟨a', (List.getElem?_eq_some_iff.mp h5).1, h5, g2⟩
          · by_cases hc2 : m' < m
            · exact hps.no m' p' hc2 hp'
            · obtain rfl : m' = m := by omega
              rw [hst] at hp'; cases hp'
              rintro ⟨c, e⟩
              simp at e
              exact hco ⟨e.1.2, e.2.2⟩
      · simp -implicitDefEqProofs [hab]
        refine ⟨ps, _, _, _, _, _, _, rfl, keep ?_ ?_⟩
        · rintro ⟨q, h⟩
          cases h
          exact hab rfl
        · rintro ⟨c, e⟩
          simp at e
          exact hab (e.1.1.trans e.2.1.symm)
    · rintro Γ ⟨ps, x7, x8, x9, x10, x11, x12, rfl, hps⟩
      rw [List.length_map] at hps
      have hpm : ∀ q, q ∈ ps ↔ Ss ws (n + 1) (u, v) q := fun q => by
        rw [hps.mem]
        constructor
        · rintro ⟨m', p', h1, h2, h3⟩
          exact ((hL.mem p').mp (List.mem_of_getElem? h2)).app (.cons h3 (.nil _))
        · intro h
          obtain ⟨p', h1, h2⟩ := h.snoc
          obtain ⟨m', h3⟩ := List.getElem?_of_mem ((hL.mem p').mpr h1)
          exact ⟨m', p', (List.getElem?_eq_some_iff.mp h3).1, h3, h2⟩
      have hno : ∀ m q, m ≤ n → Ss ws m (u, v) q → ¬ Co q := fun m q hm hq => by
        by_cases hc : m < n
        · exact hL.no m q hc hq
        · obtain rfl : m = n := by omega
          obtain ⟨m', h3⟩ := List.getElem?_of_mem ((hL.mem q).mpr hq)
          exact hps.no m' q (List.getElem?_eq_some_iff.mp h3).1 h3
      have hpin : ∀ p ∈ ps, InS ws p.1 ∧ InS ws p.2 := fun p hp => hin ((hpm p).mp hp)
      have htx : ∀ t, InS ws t → t.length ≤ 5 ∧ ∀ c ∈ t, c < 1000 := fun t h => by
        refine ⟨h.len hw, fun c hc => ?_⟩
        obtain ⟨_, w, hw2, hs⟩ := h
        exact ht w hw2 c (hs.subset hc)
      have hpe := dEq_pairs (ps := ps) (by have := hps.len; omega) fun p hp => ⟨htx _ (hpin p hp).1, htx _ (hpin p hp).2⟩
      simp -implicitDefEqProofs [hpe]
      by_cases hp0 : ps = []
      · simp -implicitDefEqProofs [hp0]
        obtain ⟨q, hq⟩ := List.exists_mem_of_ne_nil _ hL.ne
        refine k n _ (.inl ⟨hn2, ⟨q, (hL.mem q).mp hq⟩, ?_, hno⟩)
        rintro ⟨q, hq⟩
        have := (hpm q).mpr hq
        rw [hp0] at this; cases this
      · obtain ⟨L2, e2, hnd2, hm2⟩ := sorted_pairs (ps := ps) (M := pairsS ws) (by have := pairsS_len hw hn; omega) fun p hp => pairsS_mem (hpin p hp)
        simp -implicitDefEqProofs [hp0, e2]
        refine ⟨L2, _, _, _, _, _, _, _, _, rfl, ?_, hnd2, fun q => (hm2 q).trans (hpm q), fun m q hm hq => hno m q (by omega) hq⟩
        intro h0
        obtain ⟨q, hq⟩ := List.exists_mem_of_ne_nil _ hp0
        have := (hm2 q).mpr hq
        rw [h0] at this; cases this
  · rintro Γ ⟨L, x5, x6, x7, x8, x9, x10, x11, x12, rfl, hL⟩
    rw [ints_len] at hL
    simp -implicitDefEqProofs
    obtain ⟨q, hq⟩ := List.exists_mem_of_ne_nil _ hL.ne
    exact k (most + 1) _ (.inr ⟨rfl, .inr ⟨q, (hL.mem q).mp hq⟩⟩)
end PM
set_option Elab.async false
set_option linter.all false
set_option maxRecDepth 100000
set_option maxHeartbeats 4000000
set_option autoImplicit false
namespace PM
open PySem PySem.Spec PyProof.Rows L2
theorem Dg.proper {ws : List Tx} (hne : ∀ w ∈ ws, w ≠ []) {t : Tx} (h : Dg ws t) : ∃ w ∈ ws, ∃ p, p ≠ [] ∧ w = p ++ t := by
  induction h with
  | first hij hi hj e => exact ⟨_, List.mem_of_getElem? hi, _, hne _ (List.mem_of_getElem? hj), e⟩
  | left hd h0 hw e ih =>
    obtain ⟨w0, hw0, p, hp, e2⟩ := ih
    exact ⟨w0, hw0, p ++ _, (fun h => hp (List.append_eq_nil_iff.mp h).1), by rw [e2, e, List.append_assoc]⟩
  | right hd h0 hw e _ => exact ⟨_, hw, _, h0, e⟩
/-- every proper end of the words is there -/
def EndsOk (ws E : List Tx) : Prop := ∀ w ∈ ws, ∀ k, 1 ≤ k → k < w.length → w.drop k ∈ E
theorem ends_all {ws E : List Tx} (hne : ∀ w ∈ ws, w ≠ []) (h : EndsOk ws E) {t : Tx} (h0 : t ≠ []) (hd : Dg ws t) : t ∈ E := by
  obtain ⟨w, hw, p, hp, e⟩ := hd.proper hne
  have h1 := List.length_pos_iff.mpr hp
  have h2 := List.length_pos_iff.mpr h0
  have := h w hw p.length h1 (by rw [e, List.length_append]; omega)
  rw [e, List.drop_left] at this
  exact this
def IEo (ws : List Txt) (i : Nat) (Γ : Sl) : Prop := ∃ es : List Txt, ∃ x3, Γ = [some (.sh (.lst (ws.map .str))), some (.fl (es.map .str)), some (.sh (.int 0)), x3, none, none, none, none, none] ∧ (∀ i' < i, ∀ w, ws[i']? = some w → ∀ k, 1 ≤ k → k < w.length → w.drop k ∈ es) ∧ es.length ≤ 5 * i ∧ ∀ t ∈ es, t.length ≤ 5
def IEi (ws es : List Txt) (w : Txt) (m : Nat) (acc : List D) (Γ : Sl) : Prop := ∃ gs : List Txt, ∃ x5, Γ = [some (.sh (.lst (ws.map .str))), some (.fl (es.map .str)), some (.sh (.int 0)), some (.sh (.str w)), none, x5, none, none, none] ∧ acc = gs.map .str ∧ (∀ k, 1 ≤ k → k < 1 + m → w.drop k ∈ es ++ gs) ∧ gs.length ≤ m ∧ ∀ t ∈ gs, t.length ≤ 5
def IEw (ws es : List Txt) (j : Nat) (acc : List D) (Γ : Sl) : Prop := ∃ x3, Γ = [some (.sh (.lst (ws.map .str))), some (.fl (es.map .str)), some (.sh (.int 0)), x3, none, none, none, none, none] ∧ acc = accN List.length (ws.take j)
def IEs (ws es : List Txt) (j : Nat) (acc : List D) (Γ : Sl) : Prop := ∃ x8, Γ = [some (.sh (.lst (ws.map .str))), some (.sh (.lst (es.map .str))), some (.sh (.int 0)), none, none, none, none, none, x8] ∧ acc = accN List.length (es.take j)
def IEk (ws es : List Txt) (most : Nat) (Good : Nat → Nat → Int → Prop) (i : Nat) (Γ : Sl) : Prop := ∃ due : Int, ∃ x5 x6 x7, Γ = [some (.sh (.lst (ws.map .str))), some (.sh (.lst (es.map .str))), some (.sh (.int due)), none, some (.sh (.int (most : Int))), x5, x6, x7, none] ∧ Good i 0 due
def IEj (ws es : List Txt) (most : Nat) (Good : Nat → Nat → Int → Prop) (i j : Nat) (Γ : Sl) : Prop := ∃ due : Int, ∃ x6 x7, Γ = [some (.sh (.lst (ws.map .str))), some (.sh (.lst (es.map .str))), some (.sh (.int due)), none, some (.sh (.int (most : Int))), some (.sh (.int i)), x6, x7, none] ∧ Good i j due
theorem fExt_strs (es gs : List Txt) : fExt (es.map D.str) [.lst (gs.map .str)] = if es.length + gs.length ≤ line then some ((es ++ gs).map D.str, .non) else none := by
  rw [fExt_lst]; simp
theorem dSum_accN (l : List Txt) : dSum (.lst (accN List.length l)) = some (.sh (nD (sumL l))) := by
  show (ints? ((l.map List.length).map nD)).map _ = _
  rw [ints_nD]
  show some (T.sh (D.int ((l.map List.length).map (Nat.cast : Nat → Int)).sum)) = some (T.sh (D.int ((l.map List.length).sum : Nat)))
  congr 3
  generalize l.map List.length = xs
  induction xs with
  | nil => rfl
  | cons a xs ih => rw [List.map_cons, List.sum_cons, List.sum_cons, ih]; omega
theorem sumL_le {E : List Tx} (h : ∀ t ∈ E, t.length ≤ 5) : sumL E ≤ 5 * E.length := by
  induction E with
  | nil => exact Nat.le_refl _
  | cons a E ih =>
    have := ih fun t ht => h t (List.mem_cons_of_mem _ ht)
    have := h a List.mem_cons_self
    unfold sumL at *
    rw [List.map_cons, List.sum_cons, List.length_cons]
    omega
theorem ldelay_gen {ws : List Txt} (Good : Nat → Nat → Int → Prop) {P : T → Sl → Prop} (hne : ∀ w ∈ ws, w ≠ []) (hw : ∀ w ∈ ws, w.length ≤ 5) (ht : ∀ w ∈ ws, ∀ c ∈ w, c < 1000) (hn : ws.length ≤ 4) (h0 : ws ≠ [])
    (g0 : Good 0 0 0) (gn : ∀ k due, Good k k due → Good (k + 1) 0 due) (ge : ∀ due Γ', Good ws.length 0 due → P (.sh (.int due)) Γ')
    (gs : ∀ (E : List Tx) (k j : Nat) (due due' mn : Int) (u v : Tx) (res : Nat), EndsOk ws E → Good k j due → j < k → ws[k]? = some u → ws[j]? = some v → Out' ws (u, v) (mx (ws.map List.length) + sumL E) res → mn ≤ u.length → mn ≤ v.length → (mn = u.length ∨ mn = v.length) → due' = (if due < res - mn + 1 then (res : Int) - mn + 1 else due) →
      if mx (ws.map List.length) + sumL E < res then ∀ Γ', P (.sh .non) Γ' else Good k (j + 1) due') :
    wpc m__law_delay 9 [.sh (.lst (ws.map .str))] P := by
  refine wpc_of ?_
  unfold m__law_delay
  have h62 : small62 (ws.length : Int) := by unfold small62; omega
  simp -implicitDefEqProofs [start']
  refine for_spec _ (IEo ws) _ ⟨[], _, rfl, fun i' h => absurd h (Nat.not_lt_zero _), Nat.zero_le _, fun t h => by cases h⟩ ?_ ?_
  · rintro i d Γ hi ⟨es, x3, rfl, hes, hel, he5⟩
    obtain ⟨w, rfl, hwi⟩ := strs_get hi
    have hwl := hw w (List.mem_of_getElem? hwi)
    have hw0 := List.length_pos_iff.mpr (hne w (List.mem_of_getElem? hwi))
    have hil : i < ws.length := (List.getElem?_eq_some_iff.mp hwi).1
    have hwl2 : w.length ≤ line := by rw [line_eq]; omega
    have hr2 : rng2 [.int 1, .int (w.length : Int)] = some (intsL 1 (w.length - 1)) := by
      show (if _ then some (intsL 1 ((w.length : Int) - 1).toNat) else none) = _
      rw [if_pos ⟨by unfold small62; omega, by unfold small62; omega⟩]
      congr 2
      omega
    refine ⟨_, rfl, ?_⟩
    simp -implicitDefEqProofs [hwl2, hr2]
    refine lc0 (IEi ws es w) ⟨[], _, rfl, rfl, (fun k h1 h2 => by omega), Nat.le_refl _, fun t h => by cases h⟩ ?_ ?_
    · rintro m d acc Γ hm ⟨gs', x5, rfl, rfl, hgs, hgl, hg5⟩
      obtain ⟨rfl, hm2⟩ := ints_get hm
      refine ⟨_, rfl, ?_⟩
      have hm1 : ((1 : Int) + m).toNat = 1 + m := by omega
      simp -implicitDefEqProofs [wipeS, hwl2, cut_from _ (show (0 : Int) ≤ 1 + m by omega), hm1, dNotIn_strs]
      have grow : ∀ hs : List Txt, w.drop (1 + m) ∈ es ++ hs → (∀ t ∈ gs', t ∈ hs) → ∀ k, 1 ≤ k → k < 1 + (m + 1) → w.drop k ∈ es ++ hs := fun hs h1 h2 k hk1 hk2 => by
        by_cases hc : k < 1 + m
        · rcases List.mem_append.mp (hgs k hk1 hc) with h | h
          · exact List.mem_append_left _ h
          · exact List.mem_append_right _ (h2 _ h)
        · obtain rfl : k = 1 + m := by omega
          exact h1
      split
      · rename_i hin
        exact ⟨gs', _, rfl, rfl, grow gs' (List.mem_append_left _ hin) fun t h => h, by omega, hg5⟩
      · rename_i hin
        rw [snoc_map]
        refine ⟨gs' ++ [w.drop (1 + m)], _, rfl, rfl, grow _ (List.mem_append_right _ (by simp)) (fun t h => List.mem_append_left _ h), by simp; omega, fun t h => ?_⟩
        rcases List.mem_append.mp h with h | h
        · exact hg5 t h
        · rw [List.mem_singleton.mp h, List.length_drop]; omega
    · rintro acc Γ ⟨gs', x5, rfl, rfl, hgs, hgl, hg5⟩
      rw [ints_len] at hgs hgl
      have hl1 : es.length + gs'.length ≤ line := by rw [line_eq]; omega
      have hl2 : gs'.length ≤ line := by omega
      simp -implicitDefEqProofs [wipeS, fExt_strs, hl1, hl2]
      rw [← List.map_append]
      refine ⟨_, _, rfl, fun i' hi' w' hw' k hk1 hk2 => ?_, by rw [List.length_append]; omega, fun t h => ?_⟩
      · by_cases hc : i' < i
        · exact List.mem_append_left _ (hes i' hc w' hw' k hk1 hk2)
        · obtain rfl : i' = i := by omega
          rw [hwi] at hw'; cases hw'
          exact hgs k hk1 (by omega)
      · rcases List.mem_append.mp h with h | h
        · exact he5 t h
        · exact hg5 t h
  · rintro Γ ⟨es, x3, rfl, hes, hel, he5⟩
    rw [List.length_map] at hes hel
    have hE : EndsOk ws es := fun w hw k h1 h2 => by
      obtain ⟨i, hi⟩ := List.getElem?_of_mem hw
      exact hes i (List.getElem?_eq_some_iff.mp hi).1 w hi k h1 h2
    have hsum := sumL_le he5
    have hmx : mx (ws.map List.length) ≤ 5 := by
      obtain ⟨w, hwm, e⟩ := List.mem_map.mp (mx_mem (l := ws.map List.length) (by simpa using h0))
      rw [← e]; exact hw w hwm
    have hwl : ws.length ≤ line := by rw [line_eq]; omega
    have hel2 : es.length ≤ line := by rw [line_eq]; omega
    have hwlen : ∀ w ∈ ws, w.length ≤ line := fun w h => by have := hw w h; rw [line_eq]; omega
    have helen : ∀ w ∈ es, w.length ≤ line := fun w h => by have := he5 w h; rw [line_eq]; omega
    simp -implicitDefEqProofs
    refine lc0 (IEw ws es) ⟨_, rfl, rfl⟩ ?_ ?_
    · rintro j d acc Γ hj ⟨x3, rfl, rfl⟩
      obtain ⟨w, rfl, hwj⟩ := strs_get hj
      refine ⟨_, rfl, ?_⟩
      simp -implicitDefEqProofs [wipeS, hwlen w (List.mem_of_getElem? hwj)]
      refine ⟨_, rfl, ?_⟩
      exact accN_snoc List.length hwj
    rintro acc Γ ⟨x3, rfl, rfl⟩
    rw [List.length_map, List.take_length]
    simp -implicitDefEqProofs [wipeS, accN_len, hwl, accN_max h0]
    refine lc0 (IEs ws es) ⟨_, rfl, rfl⟩ ?_ ?_
    · rintro j d acc Γ hj ⟨x3, rfl, rfl⟩
      obtain ⟨w, rfl, hwj⟩ := strs_get hj
      refine ⟨_, rfl, ?_⟩
      simp -implicitDefEqProofs [wipeS, helen w (List.mem_of_getElem? hwj)]
      refine ⟨_, rfl, ?_⟩
      exact accN_snoc List.length hwj
    rintro acc Γ ⟨x3, rfl, rfl⟩
    rw [List.length_map, List.take_length]
    simp -implicitDefEqProofs [wipeS, accN_len, hel2, dSum_accN, add_nD, rng1_int _ h62]
    rw [nD_eq]
    generalize hmost : mx (ws.map List.length) + sumL es = most
    have hmost6 : most < 10 ^ 6 := by omega
    refine for_spec _ (IEk ws es most Good) _ ⟨0, _, _, _, rfl, g0⟩ ?_ ?_
    · rintro i d Γ hi ⟨due, x5, x6, x7, rfl, hg⟩
      obtain ⟨rfl, hi2⟩ := ints_get hi
      have hi2 : i < ws.length := hi2
      have h62i : small62 (i : Int) := by unfold small62; omega
      refine ⟨_, rfl, ?_⟩
      simp -implicitDefEqProofs [rng1_int _ h62i]
      refine for_spec _ (IEj ws es most Good i) _ ⟨due, _, _, rfl, hg⟩ ?_ ?_
      · rintro j d Γ hj ⟨due, x6, x7, rfl, hg⟩
        obtain ⟨rfl, hj2⟩ := ints_get hj
        have hj2 : j < i := hj2
        obtain ⟨u, e1, hu, e2⟩ := atI_map (ws := ws) (r := (i : Int)) (by omega) (by omega)
        obtain ⟨v, e3, hv, e4⟩ := atI_map (ws := ws) (r := (j : Int)) (by omega) (by omega)
        have e2 : ws[i]? = some u := e2
        have e4 : ws[j]? = some v := e4
        refine ⟨_, rfl, ?_⟩
        simp -implicitDefEqProofs [e1, e3]
        refine alike_spec hne hw ht hn hu hv hmost6 fun res Γ1 hres => ?_
        obtain ⟨mn, em, hm1, hm2, hm3⟩ : ∃ mn : Int, dMin2 [.int u.length, .int v.length] = some (.sh (.int mn)) ∧ mn ≤ u.length ∧ mn ≤ v.length ∧ (mn = u.length ∨ mn = v.length) := by
          refine ⟨_, rfl, ?_, ?_, ?_⟩ <;> split <;> omega
        have hstep := gs es i j due _ mn u v res hE hg hj2 e2 e4 (hmost ▸ hres) hm1 hm2 hm3 rfl
        rw [hmost] at hstep
        simp -implicitDefEqProofs
        by_cases hc : most < res
        · rw [if_pos hc] at hstep
          simp -implicitDefEqProofs [hc]
          exact hstep _
        · rw [if_neg hc] at hstep
          simp -implicitDefEqProofs [hc, e1, e3, hwlen u hu, hwlen v hv, em]
          exact ⟨_, _, _, rfl, hstep⟩
      · rintro Γ ⟨due, x6, x7, rfl, hg⟩
        rw [ints_len] at hg
        exact ⟨due, _, _, _, rfl, gn i due hg⟩
    · rintro Γ ⟨due, x5, x6, x7, rfl, hg⟩
      rw [ints_len] at hg
      simp -implicitDefEqProofs
      exact ge due _ hg
end PM
set_option Elab.async false
set_option linter.all false
set_option maxRecDepth 100000
set_option maxHeartbeats 4000000
set_option autoImplicit false
namespace PM
open PySem PySem.Spec PyProof.Rows L2
theorem restOf_comm (u v : Txt) : restOf u v = restOf v u := by
  have h : ∀ a b : Txt, ∀ t, restOf a b = some t → restOf b a = some t := fun a b t h => restOf_iff.mpr (restOf_iff.mp h).symm
  cases e : restOf u v with
  | some t => rw [h u v t e]
  | none =>
    cases e2 : restOf v u with
    | none => rfl
    | some t => rw [h v u t e2] at e; cases e
theorem ldelay_none {ws : List Txt} {P : T → Sl → Prop} (hne : ∀ w ∈ ws, w ≠ []) (hw : ∀ w ∈ ws, w.length ≤ 5) (ht : ∀ w ∈ ws, ∀ c ∈ w, c < 1000) (hn : ws.length ≤ 4) (h0 : ws ≠ []) (h : IsDelay ws none) (k : ∀ Γ', P (.sh .non) Γ') : wpc m__law_delay 9 [.sh (.lst (ws.map .str))] P := by
  obtain ⟨u0, v0, ⟨a, b, hab, ha, hb⟩, he⟩ := h
  refine ldelay_gen (fun i j _ => ∀ i' j' u v, j' < i' → (i' < i ∨ (i' = i ∧ j' < j)) → ws[i']? = some u → ws[j']? = some v → ¬ Ever ws (u, v)) hne hw ht hn h0 ?_ ?_ ?_ ?_
  · intro i' j' u v h1 h2; omega
  · intro i _ hg i' j' u v h1 h2; exact hg i' j' u v h1 (by omega)
  · intro due Γ' hg
    have hal := (List.getElem?_eq_some_iff.mp ha).1
    have hbl := (List.getElem?_eq_some_iff.mp hb).1
    rcases Nat.lt_or_gt_of_ne hab with l | l
    · exact absurd he.swap (hg b a v0 u0 l (.inl hbl) hb ha)
    · exact absurd he (hg a b u0 v0 l (.inl hal) ha hb)
  · intro E i j due due' mn u v res hE hg hj hu hv hres h1 h2 h3 e
    split
    · exact fun Γ' => k Γ'
    · rename_i hc
      intro i' j' u' v' g1 g2 g3 g4
      by_cases hc2 : i' < i ∨ (i' = i ∧ j' < j)
      · exact hg i' j' u' v' g1 hc2 g3 g4
      · obtain rfl : i' = i := by omega
        obtain rfl : j' = j := by omega
        rw [hu] at g3; rw [hv] at g4
        cases g3; cases g4
        intro hev
        have := out_ever hres hev
        omega
theorem ldelay_some {ws : List Txt} {d : Nat} {P : T → Sl → Prop} (hne : ∀ w ∈ ws, w ≠ []) (hw : ∀ w ∈ ws, w.length ≤ 5) (ht : ∀ w ∈ ws, ∀ c ∈ w, c < 1000) (hn : ws.length ≤ 4) (h0 : ws ≠ []) (h : IsDelay ws (some d)) (k : ∀ Γ', P (.sh (.int (d : Int))) Γ') : wpc m__law_delay 9 [.sh (.lst (ws.map .str))] P := by
  obtain ⟨U, g, st, ru, hd1, hd2⟩ := h
  refine ldelay_gen (fun i j due => ∃ n : Nat, due = n ∧ n ≤ d ∧ ∀ i' j' u v t, j' < i' → (i' < i ∨ (i' = i ∧ j' < j)) → ws[i']? = some u → ws[j']? = some v → restOf u v = some t → U t + 1 ≤ n) hne hw ht hn h0 ?_ ?_ ?_ ?_
  · exact ⟨0, rfl, Nat.zero_le _, fun i' j' u v t h1 h2 => by omega⟩
  · rintro i due ⟨n, rfl, hnd, hg⟩
    exact ⟨n, rfl, hnd, fun i' j' u v t h1 h2 => hg i' j' u v t h1 (by omega)⟩
  · rintro due Γ' ⟨n, rfl, hnd, hg⟩
    have : n = d := by
      rcases hd2 with rfl | ⟨u, v, t, ⟨a, b, hab, ha, hb⟩, e, rfl⟩
      · omega
      · have hal := (List.getElem?_eq_some_iff.mp ha).1
        have hbl := (List.getElem?_eq_some_iff.mp hb).1
        rcases Nat.lt_or_gt_of_ne hab with l | l
        · have := hg b a v u t l (.inl hbl) hb ha ((restOf_comm v u).trans e); omega
        · have := hg a b u v t l (.inl hal) ha hb e; omega
    rw [this]
    exact k Γ'
  · rintro E i j due due' mn u v res hE ⟨n, rfl, hnd, hg⟩ hj hu hv hres h1 h2 h3 e
    have two : Two' ws u v := ⟨i, j, by omega, hu, hv⟩
    have hb := tg1_bound g st (E := E ++ [[]]) (L := mx (ws.map List.length)) (fun t hdt => by
      by_cases h0 : t = []
      · rw [h0]; simp
      · exact List.mem_append_left _ (ends_all hne hE h0 hdt)) two (fun w hwm => mx_ge (List.mem_map.mpr ⟨w, hwm, rfl⟩))
    have hs : sumL (E ++ [[]]) = sumL E := by simp [sumL]
    rw [hs] at hb
    have hr := out_still g st ru two hres hb
    rw [if_neg (by omega)]
    have hlu := (lcp_le u v).1
    have hlv := (lcp_le u v).2
    cases er : restOf u v with
    | none =>
      have hlt := lcp_lt er
      have hr2 : res = lcp u v := by rw [hr]; unfold tg1; rw [er]; rfl
      refine ⟨n, ?_, hnd, fun i' j' u' v' t g1 g2 g3 g4 g5 => ?_⟩
      · rw [e, if_neg (by omega)]
      · by_cases hc2 : i' < i ∨ (i' = i ∧ j' < j)
        · exact hg i' j' u' v' t g1 hc2 g3 g4 g5
        · obtain rfl : i' = i := by omega
          obtain rfl : j' = j := by omega
          rw [hu] at g3; rw [hv] at g4
          cases g3; cases g4
          rw [er] at g5; cases g5
    | some t =>
      have hr2 : res = lcp u v + U t := by rw [hr]; unfold tg1; rw [er]
      have hmn : mn = lcp u v := by
        rcases restOf_iff.mp er with e3 | e3
        · have q1 : lcp u v = v.length := by rw [e3]; exact lcp_app v t
          have q2 := congrArg List.length e3
          rw [List.length_append] at q2
          omega
        · have q1 : lcp u v = u.length := by rw [e3, lcp_comm]; exact lcp_app u t
          have q2 := congrArg List.length e3
          rw [List.length_append] at q2
          omega
      have hdt := hd1 u v t two er
      have hstep : ∀ m : Nat, n ≤ m → U t + 1 ≤ m → ∀ i' j' u' v' t', j' < i' → (i' < i ∨ (i' = i ∧ j' < j + 1)) → ws[i']? = some u' → ws[j']? = some v' → restOf u' v' = some t' → U t' + 1 ≤ m := fun m hm1 hm2 i' j' u' v' t' g1 g2 g3 g4 g5 => by
        by_cases hc2 : i' < i ∨ (i' = i ∧ j' < j)
        · exact Nat.le_trans (hg i' j' u' v' t' g1 hc2 g3 g4 g5) hm1
        · obtain rfl : i' = i := by omega
          obtain rfl : j' = j := by omega
          rw [hu] at g3; rw [hv] at g4
          cases g3; cases g4
          rw [er] at g5; cases g5
          exact hm2
      by_cases hc : (n : Int) < res - mn + 1
      · rw [if_pos hc] at e
        exact ⟨U t + 1, by omega, hdt, hstep _ (by omega) (Nat.le_refl _)⟩
      · rw [if_neg hc] at e
        exact ⟨n, e, hnd, hstep _ (Nat.le_refl _) (by omega)⟩
theorem ldelay_spec {ws : List Txt} {o : Option Nat} {P : T → Sl → Prop} (hne : ∀ w ∈ ws, w ≠ []) (hw : ∀ w ∈ ws, w.length ≤ 5) (ht : ∀ w ∈ ws, ∀ c ∈ w, c < 1000) (hn : ws.length ≤ 4) (h0 : ws ≠ []) (h : IsDelay ws o) (k : ∀ Γ', P (.sh (optN o)) Γ') : wpc m__law_delay 9 [.sh (.lst (ws.map .str))] P := by
  cases o with
  | none => exact ldelay_none hne hw ht hn h0 h k
  | some d => exact ldelay_some hne hw ht hn h0 h k
theorem optN_inj {o p : Option Nat} (h : optN o = optN p) : o = p := by
  cases o <;> cases p <;> simp [optN, nD] at h
  · rfl
  · congr 1; omega
/-- there is one delay -/
theorem delay_ex {ws : List Txt} (hne : ∀ w ∈ ws, w ≠ []) (hw : ∀ w ∈ ws, w.length ≤ 100) (hn : ws.length ≤ 100) (h0 : ws ≠ []) : ∃ o, IsDelay ws o := by
  obtain ⟨t, Γ, _, h⟩ := (delay_spec (key := []) (abc := []) (P := fun _ _ => ∃ o, IsDelay ws o) hne hw hn h0 fun o _ h => ⟨o, h⟩).go
  exact h
theorem delay_uniq {ws : List Txt} {o p : Option Nat} (hne : ∀ w ∈ ws, w ≠ []) (hw : ∀ w ∈ ws, w.length ≤ 5) (ht : ∀ w ∈ ws, ∀ c ∈ w, c < 1000) (hn : ws.length ≤ 4) (h0 : ws ≠ []) (h : IsDelay ws o) (h2 : IsDelay ws p) : o = p := by
  obtain ⟨t, Γ, e, rfl⟩ := (ldelay_spec (P := fun t _ => t = .sh (optN o)) hne hw ht hn h0 h fun _ => rfl).go
  obtain ⟨t, Γ, e2, rfl⟩ := (ldelay_spec (P := fun t _ => t = .sh (optN p)) hne hw ht hn h0 h2 fun _ => rfl).go
  rw [e] at e2
  simp at e2
  exact optN_inj e2.1
end PM
set_option Elab.async false
set_option linter.all false
set_option maxRecDepth 100000
set_option maxHeartbeats 4000000
set_option autoImplicit false
namespace PM
open PySem PySem.Spec PyProof.Rows L2
theorem delay_le {ws : List Txt} {d : Nat} (hw : ∀ w ∈ ws, w.length ≤ 5) (hn : ws.length ≤ 4) (h : IsDelay ws (some d)) : d < 200 := by
  obtain ⟨U, g, st, ru, hd1, hd2⟩ := h
  have h1 := allS_len hw
  have h2 : (allS ws).length ≤ 20 := by omega
  have h3 : sumL (allS ws) ≤ 5 * (allS ws).length := sumL_le fun t ht => by
    obtain ⟨w, hwm, hs⟩ := List.mem_flatMap.mp ht
    have key : ∀ w : List Nat, t ∈ sufs w → t.length ≤ w.length := by
      intro w
      induction w with
      | nil => intro h; cases h
      | cons c w ih =>
        intro h
        unfold sufs at h
        rcases List.mem_cons.mp h with rfl | h
        · exact Nat.le_refl _
        · have := ih h; rw [List.length_cons]; omega
    exact Nat.le_trans (key w hs) (hw w hwm)
  rcases hd2 with rfl | ⟨u, v, t, two, e, rfl⟩
  · omega
  · have := tg1_bound g st (E := allS ws) (L := 5) (fun t hdt => allS_mem (fun z => g.single (z ▸ hdt)) hdt) two hw
    unfold tg1 at this
    rw [e] at this
    have : lcp u v + U t ≤ 5 + sumL (allS ws) := this
    omega
theorem repr_small : ∀ d : Nat, d < 200 → ∃ s, dRepr (nD d) = some (.sh (.str s)) ∧ (s = [48] ↔ d = 0) := by
  intro d hd
  have e : dRepr (nD d) = some (.sh (.str (Str.ofString (toString (d : Int))).cps.toList)) := by
    obtain ⟨s, hs⟩ := (Sh.int (i := (d : Int)) (Nat.lt_of_lt_of_le (show (d : Int).natAbs < 2 ^ 10 by omega) (Nat.pow_le_pow_right (by decide) (by decide)))).repr (by decide) (by decide)
    have hs : dRepr (nD d) = some (.sh (.str s)) := hs
    have h2 := hs
    unfold dRepr at h2
    have : (nD d).py = some (.int d) := rfl
    rw [this] at h2
    have h2 : (if _ then some (T.sh (.str (PyData.int d).shown.cps.toList)) else none) = some (T.sh (.str s)) := h2
    split at h2
    · rw [hs, ← h2]; rfl
    · cases h2
  refine ⟨_, e, ?_⟩
  have key : ∀ d : Nat, d < 200 → ((Str.ofString (toString (d : Int))).cps.toList = [48] ↔ d = 0) := by decide
  exact key d hd
theorem repr_opt {ws : List Txt} {o : Option Nat} (hw : ∀ w ∈ ws, w.length ≤ 5) (hn : ws.length ≤ 4) (h : IsDelay ws o) : ∃ s, dRepr (optN o) = some (.sh (.str s)) ∧ (s = [48] ↔ Plain ws) := by
  cases o with
  | none =>
    refine ⟨[78, 111, 110, 101], rfl, ?_⟩
    constructor
    · intro h; cases h
    · intro hp
      have := (delay_zero h).mpr hp
      cases this
  | some d =>
    obtain ⟨s, e, hs⟩ := repr_small d (delay_le hw hn h)
    refine ⟨s, e, ?_⟩
    rw [hs, ← delay_zero h]
    simp
end PM
set_option Elab.async false
set_option linter.all false
set_option maxRecDepth 100000
set_option maxHeartbeats 4000000
set_option autoImplicit false
namespace PM
open PySem PySem.Spec PyProof.Rows L2
noncomputable def mTail : M Out :=
 (mSeq (mIfS (mTe dLt (mTwo (fz (mUn dLen (mVw 1))) (M.pure (.int 5))))
 (mSeq (mSet 7 (mIf (mTe dEq (mTwo (fz (mCall 4 m__law_sip [some 0, none] (mLent 0 (mCons (M.pure (.int 2)) (M.pure []))))) (M.pure (.int 0)))) (mCall 8 m_delay [none] (mCons (mVar 6) (M.pure []))) (mCallKw 8 m_delay (mVar 6))))
 (mIfS (mOr (mTe dNe (mTwo (fz (mUn dRepr (mVw 7))) (fz (mUn dRepr (fz (mCall 9 m__law_delay [none] (mCons (mVar 1) (M.pure [])))))))) (mTe dNe (mTwo (mBl (mTe dEq (mTwo (fz (mUn dRepr (mVw 7))) (M.pure (.str [48]))))) (mVw 4))))
 (mRet (shM (M.pure (.bl false))))
 (M.pure .nx)))
 (M.pure .nx))
 (mRet (shM (mAndV (mBl (mTe dEq (mTwo (fz (mUn dRepr (fz (mCall 5 m_is_plain [none] (mCons (mVar 6) (M.pure [])))))) (fz (mUn dRepr (mVw 4)))))) (fz (mCall 6 m__law_stays [none, none, none, none] (mCons (mVar 6) (mCons (mVar 3) (mCons (mVar 1) (mCons (mVar 2) (M.pure [])))))))))))
theorem asked_tail {r n cap most : Nat} {w : T} {abc key : Txt} {ws : List Txt} {b : Bool} {rb : Txt} {x5 : Option T} {P : T → Sl → Prop} (ha : Abc r abc) (hr : 1 ≤ r) (hr3 : r ≤ 3) (hk : Abc ws.length key) (hw : Row abc cap most ws) (hc : cap ≤ 6) (hm : most ≤ 5) (h : Well n w) (hn : n + 100 < 10 ^ 9) (hb : b = true ↔ Plain ws) (hrb : dRepr (.bl b) = some (.sh (.str rb))) (k : ∀ w' Γ', Well (n + 10) w' → P (.sh (.bl true)) (some w' :: Γ')) :
    Wp (mTail [some w, some (.sh (.lst (ws.map .str))), some (.sh (.str abc)), some (.sh (.str key)), some (.sh (.bl b)), x5, some (.sh (bookV key ws abc)), none]) (outP P) := by
  have hwl := hw.len
  have hal := ha.len
  have hall : abc.length ≤ line := by rw [line_eq]; omega
  have hw5 : ∀ w ∈ ws, w.length ≤ 5 := fun w h => by have := (hw.wd w h).2.1; omega
  have hw100 : ∀ w ∈ ws, w.length ≤ 100 := fun w h => Nat.le_trans (hw5 w h) (by decide)
  have hne : ∀ w ∈ ws, w ≠ [] := fun w h e => by have := (hw.wd w h).1; rw [e] at this; simp at this
  have htx : ∀ w ∈ ws, ∀ c ∈ w, c < 1000 := fun w h => (row_tx ha hw (by omega) w h).2
  have hwll : ws.length ≤ line := by rw [line_eq]; omega
  have same : ∀ b', (b' = true ↔ Plain ws) → b' = b := fun b' h => by rw [Bool.eq_iff_iff, h, hb]
  obtain ⟨o, ho⟩ := delay_ex hne hw100 (by omega) hw.ne
  unfold mTail
  simp -implicitDefEqProofs
  split
  · rename_i h5
    have h4 : ws.length ≤ 4 := by omega
    refine sip_call h (by omega) (by decide) (by decide) fun r1 w1 Γ1 q0 q1 hw1 => ?_
    simp -implicitDefEqProofs
    refine delay_spec hne hw100 (by omega) hw.ne fun o' Γ2 ho' => ?_
    obtain rfl := delay_uniq hne hw5 htx h4 hw.ne ho ho'
    obtain ⟨s, hrs, hs⟩ := repr_opt hw5 h4 ho
    have hsb : decide (s = [48]) = b := by rw [Bool.eq_iff_iff, decide_eq_true_iff, hs, hb]
    simp -implicitDefEqProofs [hrs]
    refine ldelay_spec hne hw5 htx h4 hw.ne ho fun Γ3 => ?_
    have hbb : dNe (.bl b) (.bl b) = some false := by cases b <;> rfl
    simp -implicitDefEqProofs [hrs, hsb, hbb]
    refine plain_spec (by omega) fun b' Γ4 hb' => ?_
    rw [same b' hb']
    simp -implicitDefEqProofs [hrb]
    refine stays_spec ha hr hr3 hk hw (by omega) (by omega) fun Γ5 => ?_
    simp -implicitDefEqProofs
    exact k _ _ (hw1.mono (by omega))
  · refine plain_spec (by omega) fun b' Γ4 hb' => ?_
    rw [same b' hb']
    simp -implicitDefEqProofs [hrb]
    refine stays_spec ha hr hr3 hk hw (by omega) (by omega) fun Γ5 => ?_
    simp -implicitDefEqProofs
    exact k _ _ (h.mono (by omega))
theorem asked_spec {r n cap most : Nat} {w : T} {abc : Txt} {ws : List Txt} {P : T → Sl → Prop} (h : Well n w) (hn : n + 1000 < 10 ^ 9) (ha : Abc r abc) (hr : 1 ≤ r) (hr3 : r ≤ 3) (hw : Row abc cap most ws) (hc : cap ≤ 6) (hm : most ≤ 5) (k : ∀ w' Γ', Well (n + 100) w' → P (.sh (.bl true)) (some w' :: Γ')) :
    wpc m__law_asked 8 [w, .sh (.lst (ws.map .str)), .sh (.str abc)] P := by
  refine wpc_of ?_
  unfold m__law_asked
  have et : (mSeq (mIfS (mTe dLt (mTwo (fz (mUn dLen (mVw 1))) (M.pure (.int 5))))
 (mSeq (mSet 7 (mIf (mTe dEq (mTwo (fz (mCall 4 m__law_sip [some 0, none] (mLent 0 (mCons (M.pure (.int 2)) (M.pure []))))) (M.pure (.int 0)))) (mCall 8 m_delay [none] (mCons (mVar 6) (M.pure []))) (mCallKw 8 m_delay (mVar 6))))
 (mIfS (mOr (mTe dNe (mTwo (fz (mUn dRepr (mVw 7))) (fz (mUn dRepr (fz (mCall 9 m__law_delay [none] (mCons (mVar 1) (M.pure [])))))))) (mTe dNe (mTwo (mBl (mTe dEq (mTwo (fz (mUn dRepr (mVw 7))) (M.pure (.str [48]))))) (mVw 4))))
 (mRet (shM (M.pure (.bl false))))
 (M.pure .nx)))
 (M.pure .nx))
 (mRet (shM (mAndV (mBl (mTe dEq (mTwo (fz (mUn dRepr (fz (mCall 5 m_is_plain [none] (mCons (mVar 6) (M.pure [])))))) (fz (mUn dRepr (mVw 4)))))) (fz (mCall 6 m__law_stays [none, none, none, none] (mCons (mVar 6) (mCons (mVar 3) (mCons (mVar 1) (mCons (mVar 2) (M.pure []))))))))))) = mTail := rfl
  rw [et]
  have hwl := hw.len
  have hal := ha.len
  have hw5 : ∀ w ∈ ws, w.length ≤ 5 := fun w h => by have := (hw.wd w h).2.1; omega
  have hw100 : ∀ w ∈ ws, w.length ≤ 100 := fun w h => Nat.le_trans (hw5 w h) (by decide)
  simp -implicitDefEqProofs [start']
  refine alphabet_spec h (by omega) (by omega) fun key w1 Γ1 hk hw1 => ?_
  simp -implicitDefEqProofs
  refine lplain_spec hw100 (by omega) fun b Γ2 hb => ?_
  refine sip_call hw1 (by omega) (by decide) (by decide) fun r1 w2 Γ3 q0 q1 hw2 => ?_
  simp -implicitDefEqProofs [dList]
  refine make_spec (n := 0) ha hr hk hw (by omega) ?_
  simp -implicitDefEqProofs
  obtain ⟨rb, hrb⟩ := (Sh.bl b).repr (by decide) (by decide)
  have same : ∀ b', (b' = true ↔ Plain ws) → b' = b := fun b' h => by rw [Bool.eq_iff_iff, h, hb]
  split
  · refine plain_spec (by omega) fun b' Γ4 hb' => ?_
    rw [same b' hb']
    simp -implicitDefEqProofs [hrb]
    refine asked_tail (n := n + 20) ha hr hr3 hk hw hc hm (hw2.mono (by omega)) (by omega) hb hrb fun w' Γ' hw' => ?_
    exact k _ _ (hw'.mono (by omega))
  · refine asked_tail (n := n + 20) ha hr hr3 hk hw hc hm (hw2.mono (by omega)) (by omega) hb hrb fun w' Γ' hw' => ?_
    exact k _ _ (hw'.mono (by omega))
end PM
set_option Elab.async false
set_option linter.all false
set_option maxRecDepth 100000
set_option maxHeartbeats 4000000
set_option autoImplicit false
namespace PM
open PySem PySem.Spec PyProof.Rows L2
/-! ### words whose reading stays open for long -/
def IMt (n : Nat) (src : D) (xs : List D) (i : Nat) (Γ : Sl) : Prop := ∃ w', ∃ l f : List D, ∃ x, Γ = [some w', some (.sh src), some (.fl l), some (.fl f), x] ∧ Well (n + i) w' ∧ f.length = i ∧ (f ++ l).Perm xs
theorem mixedS_spec {n : Nat} {w : T} {src : D} {xs : List D} {P : T → Sl → Prop} (h : Well n w) (hn : n + 20 < 10 ^ 9) (hl : xs.length ≤ 20) (e1 : dList src = some (.fl xs)) (e2 : dLen src = some (.sh (.int xs.length))) (k : ∀ ys w' Γ', ys.Perm xs → Well (n + 20) w' → P (.fl ys) (some w' :: Γ')) : wpc m__law_mixed 5 [w, .sh src] P := by
  refine wpc_of ?_
  unfold m__law_mixed
  have h62 : small62 (xs.length : Int) := by unfold small62; omega
  simp -implicitDefEqProofs [start', rng1_int _ h62, e1, e2]
  refine for_spec _ (IMt n src xs) _ ?_ ?_ ?_
  · exact ⟨w, xs, [], _, rfl, h, rfl, .refl _⟩
  · rintro i d Γ hi ⟨w', l, f, x, rfl, hw', hf, hp⟩
    obtain ⟨rfl, hi2⟩ := ints_get hi
    have hpl := hp.length_eq
    rw [List.length_append] at hpl
    refine ⟨_, rfl, ?_⟩
    simp -implicitDefEqProofs
    refine sip_call hw' (by omega) (by omega) (by omega) fun r w1 Γ1 h0 h1 hw => ?_
    obtain ⟨c, e, hc, e2⟩ := atI_nat h0 h1
    obtain ⟨r, rfl⟩ := Int.eq_ofNat_of_zero_le h0
    have hrl : r < l.length := by omega
    have e2 : l[r]? = some c := e2
    have hfl : f.length < line := by rw [line_eq]; omega
    simp -implicitDefEqProofs [fPop_nat e2 (show l.length < 10 ^ 9 by omega), hfl]
    refine ⟨w1, _, _, _, rfl, hw.mono (by omega), by simp [hf], ?_⟩
    refine List.Perm.trans ?_ hp
    rw [List.append_assoc]
    exact List.Perm.append_left f (erase_perm e2)
  · rintro Γ ⟨w', l, f, x, rfl, hw', hf, hp⟩
    rw [ints_len] at hf hw'
    have hpl := hp.length_eq
    rw [List.length_append] at hpl
    have : l = [] := List.length_eq_zero_iff.mp (by omega)
    subst this
    rw [List.append_nil] at hp
    simp -implicitDefEqProofs
    exact k _ _ _ hp (hw'.mono (by omega))
def lates : List Txt := [[97, 98, 98, 32, 98, 98, 98, 97, 98, 32, 98, 98, 97, 97, 32, 98, 98, 98, 97], [98, 97, 32, 97, 98, 98, 32, 98, 97, 98, 97, 98], [97, 98, 97, 97, 32, 98, 32, 97, 97, 97, 97, 98, 32, 98, 98, 97, 98], [97, 98, 32, 98, 97, 97, 98, 97, 32, 98, 97, 97], [97, 32, 98, 98, 97, 98, 32, 97, 98, 98], [97, 98, 32, 97, 32, 98, 97, 98, 98, 97], [97, 97, 97, 97, 98, 32, 98, 97, 98, 98, 98, 32, 97], [97, 32, 97, 98, 32, 98, 98], [97, 97, 98, 98, 97, 32, 97, 97, 98, 98, 32, 98, 98, 97, 97, 32, 97, 97, 97, 98], [97, 32, 97, 98, 32, 97, 98, 98, 32, 98, 98, 98], [98, 32, 97, 98, 32, 97, 97, 98, 32, 97, 97, 98, 98, 98]]
def lateOk (s : Txt) : Bool := decide (splitT s [32] ≠ []) && (decide ((splitT s [32]).length ≤ 4) && (decide (s.length ≤ 100) && (splitT s [32]).all fun w => decide (1 ≤ w.length) && decide (w.length ≤ 5)))
theorem lates_all : lates.all lateOk = true := by kernel_rfl
theorem late_parts {s : Txt} (h : s ∈ lates) : splitT s [32] ≠ [] ∧ (splitT s [32]).length ≤ 4 ∧ s.length ≤ 100 ∧ ∀ w ∈ splitT s [32], 1 ≤ w.length ∧ w.length ≤ 5 := by
  have := List.all_eq_true.mp lates_all s h
  unfold lateOk at this
  simp only [Bool.and_eq_true, decide_eq_true_eq, List.all_eq_true] at this
  exact this
def ILt (w' : T) (abc : Txt) (some_ : Txt) (pr : List D) (i : Nat) (acc : List D) (Γ : Sl) : Prop := ∃ t3 x7 x8, ∃ us : List Txt, Γ = [some w', some (.sh (.str abc)), some (.sh (.str some_)), some t3, none, none, none, x7, x8] ∧ t3.v? = some (.lst pr) ∧ acc = us.map .str ∧ us.length = i ∧ ∀ u ∈ us, Wd' abc 1 5 u
def ILs (w' : T) (abc : Txt) (some_ : Txt) (pr : List D) (wd : Txt) (i : Nat) (acc : List D) (Γ : Sl) : Prop := ∃ t3 x8, ∃ s : Txt, Γ = [some w', some (.sh (.str abc)), some (.sh (.str some_)), some t3, none, none, none, some (.sh (.str wd)), x8] ∧ t3.v? = some (.lst pr) ∧ acc = (s.map fun c => [c]).map .str ∧ s.length = i ∧ ∀ c ∈ s, c ∈ abc
theorem late_spec {n r : Nat} {w : T} {abc : Txt} {P : T → Sl → Prop} (h : Well n w) (hn : n + 200 < 10 ^ 9) (ha : Abc r abc) (hr : 2 ≤ r) (hr3 : r ≤ 3) (k : ∀ us w' Γ', Row abc 4 5 us → Well (n + 100) w' → P (.fl (us.map .str)) (some w' :: Γ')) : wpc m__law_late_words 9 [w, .sh (.str abc)] P := by
  refine wpc_of ?_
  unfold m__law_late_words
  have hal := ha.len
  have h5l : 5 ≤ line := by rw [line_eq]; omega
  have h10l : 10 ≤ line := by rw [line_eq]; omega
  have h11l : 11 ≤ line := by rw [line_eq]; omega
  have hall : abc.length ≤ line := by rw [line_eq]; omega
  simp -implicitDefEqProofs [start', h5l, h10l, h11l, one_le_line]
  refine pick_spec (xs := lates.map .str) h (by omega) (by simp [lates]) (by decide) fun d w1 Γ1 hd hw1 => ?_
  obtain ⟨s, hs, rfl⟩ := map_of_mem hd
  obtain ⟨p1, p2, p3, p4⟩ := late_parts hs
  simp -implicitDefEqProofs
  refine mixedS_spec (xs := (abc.map fun c => [c]).map .str) hw1 (by omega) (by simp; omega) ?_ ?_ fun ys w2 Γ2 hys hw2 => ?_
  · show (if abc.length ≤ line then some (T.fl (signs abc)) else none) = _
    rw [if_pos hall]
    unfold signs
    rw [List.map_map]; rfl
  · simp [hall]
  obtain ⟨us, rfl, hus⟩ := perm_strs hys
  have hul := hus.length_eq
  rw [List.length_map] at hul
  obtain ⟨a0, a1, us, rfl⟩ : ∃ a0 a1 us', us = a0 :: a1 :: us' := by
    match us, hul with
    | a0 :: a1 :: us', _ => exact ⟨a0, a1, us', rfl⟩
    | [a], h => simp at h; omega
    | [], h => simp at h; omega
  have hin : ∀ a ∈ (a0 :: a1 :: us), ∃ c ∈ abc, a = [c] := fun a h => by
    obtain ⟨c, hc, e⟩ := List.mem_map.mp (hus.mem_iff.mp h)
    exact ⟨c, hc, e.symm⟩
  obtain ⟨c0, hc0, rfl⟩ := hin a0 (by simp)
  obtain ⟨c1, hc1, rfl⟩ := hin a1 (by simp)
  have hsp : dSplit (.str s) (.str [32]) = some (.fl ((splitT s [32]).map .str)) := if_pos ⟨by decide, by rw [line_eq]; omega⟩
  have h2i : ∀ c : Nat, ∃ c', c' ∈ abc ∧ atI [D.str [c0], D.str [c1]] (if c = 98 then 1 else 0) = some (.str [c']) := fun c => by
    by_cases e : c = 98
    · exact ⟨c1, hc1, by rw [if_pos e]; rfl⟩
    · exact ⟨c0, hc0, by rw [if_neg e]; rfl⟩
  simp -implicitDefEqProofs [cut_to _ (show (0 : Int) ≤ 2 by decide), hsp]
  refine lc0 (ILt w2 abc s [.str [c0], .str [c1]]) ⟨_, _, _, [], rfl, rfl, rfl, rfl, fun u hu => by cases hu⟩ ?_ ?_
  · rintro i d acc Γ hi ⟨t3, x7, x8, vs, rfl, ht3, rfl, hvl, hvw⟩
    obtain ⟨wd, rfl, hwd⟩ := strs_get hi
    obtain ⟨hwd1, hwd5⟩ := p4 wd (List.mem_of_getElem? hwd)
    refine ⟨_, rfl, ?_⟩
    simp -implicitDefEqProofs [wipeS]
    refine lc0 (ILs w2 abc s [.str [c0], .str [c1]] wd) ⟨_, _, [], rfl, ht3, rfl, rfl, fun c hc => by cases hc⟩ ?_ ?_
    · rintro j d acc Γ hj ⟨t3, x8, z, rfl, ht3, rfl, hzl, hz⟩
      obtain ⟨c, rfl, hc⟩ := signs_get hj
      obtain ⟨c', hc', e⟩ := h2i c
      refine ⟨_, rfl, ?_⟩
      simp -implicitDefEqProofs [wipeS, ht3, dInt, e]
      refine ⟨_, _, z ++ [c'], rfl, ht3, by simp, by simp [hzl], fun d hd => ?_⟩
      rcases List.mem_append.mp hd with h | h
      · exact hz d h
      · rw [List.mem_singleton.mp h]; exact hc'
    · rintro acc Γ ⟨t3, x8, z, rfl, ht3, rfl, hzl, hz⟩
      have hzl : z.length = wd.length := by rw [hzl]; simp [signs]
      have hjl : z.length ≤ line := by rw [line_eq]; omega
      simp -implicitDefEqProofs [dJoin_chars, hjl, wipeS]
      refine ⟨_, _, _, vs ++ [z], rfl, ht3, by simp, by simp [hvl], fun u hu => ?_⟩
      rcases List.mem_append.mp hu with h | h
      · exact hvw u h
      · rw [List.mem_singleton.mp h]; exact ⟨by omega, by omega, hz⟩
  rintro acc Γ ⟨t3, x7, x8, vs, rfl, ht3, rfl, hvl, hvw⟩
  rw [List.length_map] at hvl
  have hvll : vs.length ≤ line := by rw [line_eq]; omega
  have hv0 : vs ≠ [] := fun e => by rw [e] at hvl; exact p1 (List.length_eq_zero_iff.mp hvl.symm)
  have hv1 := List.length_pos_iff.mpr hv0
  have fin_ : ∀ (zs : List Txt) (w' : T) (rest : Sl) (ds : List D), ds = zs.map .str → zs.length = (splitT s [32]).length → (∀ z ∈ zs, Wd' abc 1 5 z) → Well (n + 60) w' →
      wpc m__law_mixed 5 [w', .sh (.lst ds)] (fun t Γc => P t ((List.head? Γc).getD none :: rest)) := by
    intro zs w' rest ds hds hzl hzw hw'
    subst hds
    refine mixed_spec hw' (by omega) (by rw [List.length_map]; omega) fun ys w9 Γ9 hys hw9 => ?_
    obtain ⟨us, rfl, hus⟩ := perm_strs hys
    simp -implicitDefEqProofs
    refine k us _ _ ⟨?_, ?_, fun z hz => hzw z (hus.mem_iff.mp hz)⟩ (hw9.mono (by omega))
    · intro e
      have := hus.length_eq
      rw [e, hzl] at this
      exact p1 (List.length_eq_zero_iff.mp this.symm)
    · rw [hus.length_eq, hzl]; exact p2
  simp -implicitDefEqProofs [wipeS, hvll]
  refine sip_call hw2 (by omega) (by decide) (by decide) fun r1 w3 Γ3 q0 q1 hw3 => ?_
  simp -implicitDefEqProofs
  split
  · refine sip_call hw3 (by omega) (by omega) (by omega) fun r2 w4 Γ4 q2 q3 hw4 => ?_
    obtain ⟨u, e1, hu, e2⟩ := atI_map (ws := vs) (r := r2) q2 (by omega)
    obtain ⟨u1, u2, u3⟩ := hvw u hu
    have hul2 : u.length ≤ line := by rw [line_eq]; omega
    simp -implicitDefEqProofs [e1, hul2]
    refine sip_call hw4 (by omega) (by omega) (by omega) fun r3 w5 Γ5 q4 q5 hw5 => ?_
    simp -implicitDefEqProofs [e1, hul2, cut_to _ q4]
    refine pickT_spec hw5 (by omega) (fun e => by rw [e] at hal; simp at hal; omega) (by omega) fun c w6 Γ6 hc hw6 => ?_
    simp -implicitDefEqProofs [e1, hul2, cut_to _ q4, cut_from _ (show (0 : Int) ≤ r3 + 1 by omega)]
    have hr3u : r3.toNat ≤ u.length := by omega
    have hr2v : r2.toNat < vs.length := by omega
    have hix : ixN vs.length r2 = some r2.toNat := by
      unfold ixN
      rw [if_pos q2, if_pos (by omega)]
    have hset : (vs.map D.str).set r2.toNat (.str (u.take r3.toNat ++ c :: u.drop (r3 + 1).toNat)) = (vs.set r2.toNat (u.take r3.toNat ++ c :: u.drop (r3 + 1).toNat)).map .str := by rw [List.map_set]
    rw [Nat.min_eq_left hr3u, hix]
    refine ⟨by rw [line_eq]; omega, by rw [line_eq]; omega, ?_⟩
    simp -implicitDefEqProofs
    refine fin_ (vs.set r2.toNat (u.take r3.toNat ++ c :: u.drop (r3 + 1).toNat)) w6 _ _ hset (by rw [List.length_set, hvl]) (fun z hz => ?_) (hw6.mono (by omega))
    rcases List.mem_or_eq_of_mem_set hz with h | rfl
    · exact hvw z h
    · refine ⟨by rw [List.length_append, List.length_cons]; omega, ?_, fun d hd => ?_⟩
      · rw [List.length_append, List.length_take, List.length_cons, List.length_drop]; omega
      · rcases List.mem_append.mp hd with h | h
        · exact u3 d (List.mem_of_mem_take h)
        · rcases List.mem_cons.mp h with rfl | h
          · exact hc
          · exact u3 d (List.mem_of_mem_drop h)
  · refine fin_ vs w3 _ _ rfl hvl hvw (hw3.mono (by omega))
end PM
set_option Elab.async false
set_option linter.all false
set_option maxRecDepth 100000
set_option maxHeartbeats 4000000
set_option autoImplicit false
namespace PM
open PySem PySem.Spec PyProof.Rows L2
theorem not_plain {ws : List Txt} {i j : Nat} {u v : Txt} (hij : i ≠ j) (hi : ws[i]? = some u) (hj : ws[j]? = some v) (h : v <+: u ∨ u <+: v) : ¬ Plain ws := fun hp => by
  rcases h with h | h
  · exact hp u v ⟨i, j, hij, hi, hj⟩ h
  · exact hp v u ⟨j, i, Ne.symm hij, hj, hi⟩ h
theorem ins_get {ws : List Txt} {s i : Nat} {x u : Txt} (hs : s ≤ ws.length) (h : ws[i]? = some u) : ∃ j, j ≠ s ∧ (ws.take s ++ [x] ++ ws.drop s)[j]? = some u ∧ (ws.take s ++ [x] ++ ws.drop s)[s]? = some x := by
  have hl : (ws.take s).length = s := by rw [List.length_take]; omega
  have hx : (ws.take s ++ [x] ++ ws.drop s)[s]? = some x := by
    rw [List.append_assoc, List.getElem?_append_right (by omega), hl, Nat.sub_self]; rfl
  by_cases c : i < s
  · refine ⟨i, by omega, ?_, hx⟩
    rw [List.append_assoc, List.getElem?_append_left (by omega), List.getElem?_take_of_lt c]; exact h
  · refine ⟨i + 1, by omega, ?_, hx⟩
    rw [List.getElem?_append_right (by rw [List.length_append, hl]; simp; omega), List.length_append, hl, List.getElem?_drop]
    rw [show s + (i + 1 - (s + [x].length)) = i by simp; omega]; exact h
theorem more_spec {n cap r : Nat} {w : T} {abc : Txt} {ws : List Txt} {P : T → Sl → Prop} (h : Well n w) (hn : n + 100 < 10 ^ 9) (ha : Abc r abc) (hr : 1 ≤ r) (hr3 : r ≤ 3) (hw : Row abc cap 5 ws) (hc : cap ≤ 10) (k : ∀ us w' Γ', Row abc (cap + 1) 5 us → ¬ Plain us → Well (n + 10) w' → P (.fl (us.map .str)) (some w' :: Γ')) : wpc m__law_more 6 [w, .sh (.lst (ws.map .str)), .sh (.str abc)] P := by
  refine wpc_of ?_
  unfold m__law_more
  have hal := ha.len
  have hwl := hw.len
  have h4l : 4 ≤ line := by rw [line_eq]; omega
  simp -implicitDefEqProofs [start']
  refine pick_spec h (by omega) (by simpa using hw.ne) (by rw [List.length_map]; omega) fun d w1 Γ1 hd hw1 => ?_
  obtain ⟨u, hu, rfl⟩ := map_of_mem hd
  obtain ⟨u1, u2, u3⟩ := hw.wd u hu
  have hul : u.length ≤ line := by rw [line_eq]; omega
  simp -implicitDefEqProofs [hul, cut_to _ (show (0 : Int) ≤ 1 by decide)]
  refine pickT_spec hw1 (by omega) (fun e => by rw [e] at hal; simp at hal; omega) (by omega) fun c w2 Γ2 hc hw2 => ?_
  have hul1 : u.length + 1 ≤ line := by rw [line_eq]; omega
  obtain ⟨mx, em, hm1, hm2⟩ : ∃ m : Nat, dMax2 [.int 1, .int ((u.length : Int) - 1)] = some (.sh (.int m)) ∧ 1 ≤ m ∧ m ≤ u.length := by
    refine ⟨max 1 (u.length - 1), ?_, by omega, by omega⟩
    show some (T.sh (D.int (if (u.length : Int) - 1 > 1 then (u.length : Int) - 1 else 1))) = _
    congr 3
    split <;> omega
  simp -implicitDefEqProofs [hul, hul1, em, h4l, cut_to _ (show (0 : Int) ≤ 5 by decide), cut_to _ (show (0 : Int) ≤ (mx : Int) by omega)]
  refine sip_call hw2 (by omega) (by omega) (by omega) fun s w3 Γ3 s0 s1 hw3 => ?_
  obtain ⟨s, rfl⟩ := Int.eq_ofNat_of_zero_le s0
  have hs : s ≤ ws.length := by omega
  simp -implicitDefEqProofs [cut_to _ s0, cut_from _ s0]
  refine pick_spec (xs := [u, u.take 1, (u ++ [c]).take 5, u.take mx].map .str) hw3 (by omega) (by simp) (by simp) fun d w4 Γ4 hd hw4 => ?_
  obtain ⟨x, hx, rfl⟩ := map_of_mem hd
  have hxw : Wd' abc 1 5 x ∧ (x <+: u ∨ u <+: x) := by
    have hpos : u ≠ [] := fun e => by rw [e] at u1; simp at u1
    simp at hx
    rcases hx with rfl | rfl | rfl | rfl
    · exact ⟨⟨u1, u2, u3⟩, .inl (List.prefix_refl _)⟩
    · exact ⟨⟨by rw [List.length_take]; omega, by rw [List.length_take]; omega, fun d hd => u3 d (List.mem_of_mem_take hd)⟩, .inl (List.take_prefix _ _)⟩
    · refine ⟨⟨by rw [List.length_take, List.length_append]; simp; omega, by rw [List.length_take]; omega, fun d hd => ?_⟩, ?_⟩
      · rcases List.mem_append.mp (List.mem_of_mem_take hd) with h | h
        · exact u3 d h
        · rw [List.mem_singleton.mp h]; exact hc
      · right
        refine List.prefix_iff_eq_take.mpr ?_
        rw [List.take_take, Nat.min_eq_left u2, List.take_left]
    · exact ⟨⟨by rw [List.length_take]; omega, by rw [List.length_take]; omega, fun d hd => u3 d (List.mem_of_mem_take hd)⟩, .inl (List.take_prefix _ _)⟩
  have e1 : List.take s (ws.map D.str) ++ D.str x :: List.drop s (ws.map D.str) = (ws.take s ++ [x] ++ ws.drop s).map .str := by simp
  have hl1 : ws.length + 1 ≤ line := by rw [line_eq]; omega
  have hl2 : ws.length ≤ line := by omega
  have ecut : cutD (ws.map D.str) (some (s : Int)) none = (ws.map D.str).drop s := cut_from _ s0
  simp -implicitDefEqProofs [Nat.min_eq_left hs, hl1, ecut]
  rw [← List.map_take, ← List.map_drop, show (ws.take s).map D.str ++ D.str x :: (ws.drop s).map D.str = (ws.take s ++ [x] ++ ws.drop s).map .str by simp]
  refine ⟨one_le_line, by omega, by omega, k _ _ _ ⟨by simp, ?_, fun z hz => ?_⟩ ?_ (hw4.mono (by omega))⟩
  · rw [List.length_append, List.length_append, List.length_take, List.length_drop]; simp; omega
  · rcases List.mem_append.mp hz with hz | hz
    · rcases List.mem_append.mp hz with hz | hz
      · exact hw.wd z (List.mem_of_mem_take hz)
      · rw [List.mem_singleton.mp hz]; exact hxw.1
    · exact hw.wd z (List.mem_of_mem_drop hz)
  · obtain ⟨i, hi⟩ := List.getElem?_of_mem hu
    obtain ⟨j, hj, g1, g2⟩ := ins_get (x := x) hs hi
    exact not_plain (Ne.symm hj) g2 g1 hxw.2.symm
end PM
set_option Elab.async false
set_option linter.all false
set_option maxRecDepth 100000
set_option maxHeartbeats 4000000
set_option autoImplicit false
namespace PM
open PySem PySem.Spec PyProof.Rows L2
noncomputable def mBody : M Out :=
 (mSeq (mSetM [5, 6] (mConsT (shM (fz (mMake "Book" 5 m_Book___init__ (mCons (fz (mCall 6 m__law_alphabet [some 1, none] (mLent 1 (mCons (fz (mUn dLen (mVw 4))) (M.pure []))))) (mCons (fz (mUn dList (mVw 4))) (mCons (mVar 3) (M.pure []))))))) (mConsT (mCall 9 m__law_delay [none] (mCons (mFz 4) (M.pure []))) (M.pure []))))
 (mSeq (mIfS (mTe dNe (mTwo (fz (mUn dRepr (fz (mCall 8 m_delay [none] (mCons (mVar 5) (M.pure [])))))) (fz (mUn dRepr (mVw 6)))))
 (mRet (shM (M.pure (.bl false))))
 (M.pure .nx))
 (mSeq (mSetM [7, 8] (mConsT (mCall 4 m__law_sip [some 1, none] (mLent 1 (mCons (fz (mOp dAdd (mTwo (fz (mUn dLen (mVw 4))) (M.pure (.int 1))))) (M.pure [])))) (mConsT (mCall 5 m__law_mixed [some 1, none] (mLent 1 (mCons (mFz 4) (M.pure [])))) (M.pure []))))
 (mSeq (mIfS (mTe dLt (mTwo (fz (mUn dLen (mVw 4))) (M.pure (.int 4))))
 (mDrop (mMut 8 [] fIns (mCons (mVar 7) (mCons (fz (mCall 5 m__law_word [some 1, none, none, none] (mLent 1 (mCons (mVar 3) (mCons (M.pure (.int 1)) (mCons (M.pure (.int 5)) (M.pure []))))))) (M.pure [])))))
 (M.pure .nx))
 (mSeq (mIfS (mOr (mNot (mTr (fz (mCall 8 m__law_asked [some 1, none, none] (mLent 1 (mCons (mFz 8) (mCons (mVar 3) (M.pure [])))))))) (mTe dNe (mTwo (fz (mUn dRepr (fz (mCall 8 m_delay [none] (mCons (mVar 5) (M.pure [])))))) (fz (mUn dRepr (mVw 6))))))
 (mRet (shM (M.pure (.bl false))))
 (M.pure .nx))
 (mSeq (mSet 9 (mCall 6 m__law_more [some 1, none, none] (mLent 1 (mCons (mFz 4) (mCons (mVar 3) (M.pure []))))))
 (mSeq (mIfS (mOr (mTr (fz (mCall 3 m__law_is_plain [none] (mCons (mFz 9) (M.pure []))))) (mNot (mTr (fz (mCall 8 m__law_asked [some 1, none, none] (mLent 1 (mCons (mFz 9) (mCons (mVar 3) (M.pure [])))))))))
 (mRet (shM (M.pure (.bl false))))
 (M.pure .nx))
 (mIfS (mOr (mNot (mTr (fz (mCall 8 m__law_asked [some 1, none, none] (mLent 1 (mCons (fz (mCall 14 m__law_words [some 1, none, none, none] (mLent 1 (mCons (mVar 3) (mCons (M.pure (.int 6)) (mCons (M.pure (.int 5)) (M.pure []))))))) (mCons (mVar 3) (M.pure [])))))))) (mNot (mTr (fz (mCall 8 m__law_asked [some 1, none, none] (mLent 1 (mCons (mFz 4) (mCons (mVar 3) (M.pure [])))))))))
 (mRet (shM (M.pure (.bl false))))
 (M.pure .nx)))))))))
noncomputable def mBody2 : M Out :=
 (mSeq (mIfS (mOr (mNot (mTr (fz (mCall 8 m__law_asked [some 1, none, none] (mLent 1 (mCons (mFz 8) (mCons (mVar 3) (M.pure [])))))))) (mTe dNe (mTwo (fz (mUn dRepr (fz (mCall 8 m_delay [none] (mCons (mVar 5) (M.pure [])))))) (fz (mUn dRepr (mVw 6))))))
 (mRet (shM (M.pure (.bl false))))
 (M.pure .nx))
 (mSeq (mSet 9 (mCall 6 m__law_more [some 1, none, none] (mLent 1 (mCons (mFz 4) (mCons (mVar 3) (M.pure []))))))
 (mSeq (mIfS (mOr (mTr (fz (mCall 3 m__law_is_plain [none] (mCons (mFz 9) (M.pure []))))) (mNot (mTr (fz (mCall 8 m__law_asked [some 1, none, none] (mLent 1 (mCons (mFz 9) (mCons (mVar 3) (M.pure [])))))))))
 (mRet (shM (M.pure (.bl false))))
 (M.pure .nx))
 (mIfS (mOr (mNot (mTr (fz (mCall 8 m__law_asked [some 1, none, none] (mLent 1 (mCons (fz (mCall 14 m__law_words [some 1, none, none, none] (mLent 1 (mCons (mVar 3) (mCons (M.pure (.int 6)) (mCons (M.pure (.int 5)) (M.pure []))))))) (mCons (mVar 3) (M.pure [])))))))) (mNot (mTr (fz (mCall 8 m__law_asked [some 1, none, none] (mLent 1 (mCons (mFz 4) (mCons (mVar 3) (M.pure [])))))))))
 (mRet (shM (M.pure (.bl false))))
 (M.pure .nx)))))
theorem perm_row {abc : Txt} {cap most : Nat} {ws us : List Txt} (h : Row abc cap most ws) (p : us.Perm ws) : Row abc cap most us :=
  ⟨fun e => h.ne (List.length_eq_zero_iff.mp (by rw [← p.length_eq, e]; rfl)), by rw [p.length_eq]; exact h.len, fun w hw => h.wd w (p.mem_iff.mp hw)⟩
theorem body2_spec {n r : Nat} {w : T} {abc key : Txt} {ws us : List Txt} {o : Option Nat} {a0 a2 x7 x9 : Option T} {Q : Out → Sl → Prop} (h : Well n w) (hn : n + 4000 < 10 ^ 9) (ha : Abc r abc) (hr : 1 ≤ r) (hr3 : r ≤ 3) (hw : Row abc 4 5 ws) (hu : Row abc 5 5 us) (ho : IsDelay ws o)
    (k : ∀ w' a3 a4 a5 a6 a7 a8 a9, Well (n + 700) w' → Q .nx [a0, some w', a2, a3, a4, a5, a6, a7, a8, a9]) :
    Wp (mBody2 [a0, some w, a2, some (.sh (.str abc)), some (.sh (.lst (ws.map .str))), some (.sh (bookV key ws abc)), some (.sh (optN o)), x7, some (.fl (us.map .str)), x9]) Q := by
  have hwl := hw.len
  have hw0 := List.length_pos_iff.mpr hw.ne
  have hal := ha.len
  have hal0 : abc ≠ [] := fun e => by rw [e] at hal; simp at hal; omega
  have hw5 : ∀ w ∈ ws, w.length ≤ 5 := fun w h => (hw.wd w h).2.1
  have hw100 : ∀ w ∈ ws, w.length ≤ 100 := fun w h => Nat.le_trans (hw5 w h) (by decide)
  have hne : ∀ w ∈ ws, w ≠ [] := fun w h e => by have := (hw.wd w h).1; rw [e] at this; simp at this
  have htx : ∀ w ∈ ws, ∀ c ∈ w, c < 1000 := fun w h => (row_tx ha hw (by decide) w h).2
  have hwll : ws.length ≤ line := by rw [line_eq]; omega
  obtain ⟨s, hrs, hs⟩ := repr_opt hw5 hwl ho
  unfold mBody2
  simp -implicitDefEqProofs
  refine asked_spec h (by omega) ha hr hr3 hu (by decide) (by decide) fun w1 Γ1 hw1 => ?_
  simp -implicitDefEqProofs
  refine delay_spec hne hw100 (by omega) hw.ne fun o' Γ2 ho' => ?_
  obtain rfl := delay_uniq hne hw5 htx hwl hw.ne ho ho'
  simp -implicitDefEqProofs [hrs]
  refine more_spec hw1 (by omega) ha hr hr3 hw (by decide) fun vs w2 Γ3 hvs hnp hw2 => ?_
  have hv5 : ∀ w ∈ vs, w.length ≤ 100 := fun w h => Nat.le_trans (hvs.wd w h).2.1 (by decide)
  have hvl := hvs.len
  simp -implicitDefEqProofs
  refine lplain_spec hv5 (by omega) fun b Γ4 hb => ?_
  have hbf : b = false := by
    cases b with
    | false => rfl
    | true => exact absurd (hb.mp rfl) hnp
  subst hbf
  simp -implicitDefEqProofs
  refine asked_spec hw2 (by omega) ha hr hr3 hvs (by decide) (by decide) fun w3 Γ5 hw3 => ?_
  simp -implicitDefEqProofs
  refine words_spec (cap := 6) (most := 5) hw3 (by omega) hal0 (by omega) (by decide) (by decide) (by decide) (by decide) fun zs w4 Γ6 hzs hw4 => ?_
  simp -implicitDefEqProofs
  refine asked_spec hw4 (by omega) ha hr hr3 hzs (by decide) (by decide) fun w5 Γ7 hw5' => ?_
  simp -implicitDefEqProofs
  refine asked_spec hw5' (by omega) ha hr hr3 hw (by decide) (by decide) fun w6 Γ8 hw6 => ?_
  simp -implicitDefEqProofs
  exact k _ _ _ _ _ _ _ _ (hw6.mono (by omega))
theorem body_spec {n r : Nat} {w : T} {abc : Txt} {ws : List Txt} {a0 a2 x5 x6 x7 x8 x9 : Option T} {Q : Out → Sl → Prop} (h : Well n w) (hn : n + 5000 < 10 ^ 9) (ha : Abc r abc) (hr : 1 ≤ r) (hr3 : r ≤ 3) (hw : Row abc 4 5 ws)
    (k : ∀ w' a3 a4 a5 a6 a7 a8 a9, Well (n + 1000) w' → Q .nx [a0, some w', a2, a3, a4, a5, a6, a7, a8, a9]) :
    Wp (mBody [a0, some w, a2, some (.sh (.str abc)), some (.fl (ws.map .str)), x5, x6, x7, x8, x9]) Q := by
  have hwl := hw.len
  have hw0 := List.length_pos_iff.mpr hw.ne
  have hal := ha.len
  have hal0 : abc ≠ [] := fun e => by rw [e] at hal; simp at hal; omega
  have hw5 : ∀ w ∈ ws, w.length ≤ 5 := fun w h => (hw.wd w h).2.1
  have hw100 : ∀ w ∈ ws, w.length ≤ 100 := fun w h => Nat.le_trans (hw5 w h) (by decide)
  have hne : ∀ w ∈ ws, w ≠ [] := fun w h e => by have := (hw.wd w h).1; rw [e] at this; simp at this
  have htx : ∀ w ∈ ws, ∀ c ∈ w, c < 1000 := fun w h => (row_tx ha hw (by decide) w h).2
  have hwll : ws.length ≤ line := by rw [line_eq]; omega
  obtain ⟨o, ho⟩ := delay_ex hne hw100 (by omega) hw.ne
  obtain ⟨s, hrs, hs⟩ := repr_opt hw5 hwl ho
  unfold mBody
  have e2 : (mSeq (mIfS (mOr (mNot (mTr (fz (mCall 8 m__law_asked [some 1, none, none] (mLent 1 (mCons (mFz 8) (mCons (mVar 3) (M.pure [])))))))) (mTe dNe (mTwo (fz (mUn dRepr (fz (mCall 8 m_delay [none] (mCons (mVar 5) (M.pure [])))))) (fz (mUn dRepr (mVw 6))))))
 (mRet (shM (M.pure (.bl false))))
 (M.pure .nx))
 (mSeq (mSet 9 (mCall 6 m__law_more [some 1, none, none] (mLent 1 (mCons (mFz 4) (mCons (mVar 3) (M.pure []))))))
 (mSeq (mIfS (mOr (mTr (fz (mCall 3 m__law_is_plain [none] (mCons (mFz 9) (M.pure []))))) (mNot (mTr (fz (mCall 8 m__law_asked [some 1, none, none] (mLent 1 (mCons (mFz 9) (mCons (mVar 3) (M.pure [])))))))))
 (mRet (shM (M.pure (.bl false))))
 (M.pure .nx))
 (mIfS (mOr (mNot (mTr (fz (mCall 8 m__law_asked [some 1, none, none] (mLent 1 (mCons (fz (mCall 14 m__law_words [some 1, none, none, none] (mLent 1 (mCons (mVar 3) (mCons (M.pure (.int 6)) (mCons (M.pure (.int 5)) (M.pure []))))))) (mCons (mVar 3) (M.pure [])))))))) (mNot (mTr (fz (mCall 8 m__law_asked [some 1, none, none] (mLent 1 (mCons (mFz 4) (mCons (mVar 3) (M.pure [])))))))))
 (mRet (shM (M.pure (.bl false))))
 (M.pure .nx))))) = mBody2 := rfl
  rw [e2]
  simp -implicitDefEqProofs
  refine alphabet_spec h (by omega) (by omega) fun key w1 Γ1 hk hw1 => ?_
  simp -implicitDefEqProofs [dList]
  refine make_spec (n := 0) ha hr hk hw (by omega) ?_
  simp -implicitDefEqProofs
  refine ldelay_spec hne hw5 htx hwl hw.ne ho fun Γ2 => ?_
  refine delay_spec hne hw100 (by omega) hw.ne fun o' Γ3 ho' => ?_
  obtain rfl := delay_uniq hne hw5 htx hwl hw.ne ho ho'
  simp -implicitDefEqProofs [hrs]
  refine sip_call hw1 (by omega) (by omega) (by omega) fun r1 w2 Γ4 q0 q1 hw2 => ?_
  simp -implicitDefEqProofs
  refine mixed_spec hw2 (by omega) (by rw [List.length_map]; omega) fun ys w3 Γ5 hys hw3 => ?_
  obtain ⟨us, rfl, hus⟩ := perm_strs hys
  have hur := perm_row hw hus
  have hul := hus.length_eq
  simp -implicitDefEqProofs
  split
  · refine word_spec (a := 1) (b := 5) hw3 (by omega) hal0 (by omega) (by decide) (by decide) fun z w4 Γ6 hz hw4 => ?_
    obtain ⟨r1, rfl⟩ := Int.eq_ofNat_of_zero_le q0
    have hins : fIns (us.map D.str) [.int (r1 : Int), .str z] = some ((us.take r1 ++ [z] ++ us.drop r1).map .str, .non) := by
      show (if _ then some (List.take (r1 : Int).toNat (us.map D.str) ++ [D.str z] ++ List.drop (r1 : Int).toNat (us.map D.str), D.non) else none) = _
      rw [if_pos ⟨by rw [List.length_map, line_eq]; omega, by omega, by omega⟩]
      simp
    simp -implicitDefEqProofs [hins]
    rw [← List.map_take, ← List.map_drop, show (us.take r1).map D.str ++ D.str z :: (us.drop r1).map D.str = (us.take r1 ++ [z] ++ us.drop r1).map .str by simp]
    refine body2_spec hw4 (by omega) ha hr hr3 hw ⟨by simp, ?_, fun x hx => ?_⟩ ho fun w' a3 a4 a5 a6 a7 a8 a9 hw' => k _ _ _ _ _ _ _ _ (hw'.mono (by omega))
    · rw [List.length_append, List.length_append, List.length_take, List.length_drop]; simp; omega
    · rcases List.mem_append.mp hx with hx | hx
      · rcases List.mem_append.mp hx with hx | hx
        · exact hur.wd x (List.mem_of_mem_take hx)
        · rw [List.mem_singleton.mp hx]; exact hz
      · exact hur.wd x (List.mem_of_mem_drop hx)
  · exact body2_spec hw3 (by omega) ha hr hr3 hw ⟨hur.ne, Nat.le_trans hur.len (by decide), hur.wd⟩ ho fun w' a3 a4 a5 a6 a7 a8 a9 hw' => k _ _ _ _ _ _ _ _ (hw'.mono (by omega))
end PM
set_option Elab.async false
set_option linter.all false
set_option maxRecDepth 100000
set_option maxHeartbeats 4000000
set_option autoImplicit false
namespace PM
open PySem PySem.Spec PyProof.Rows L2
@[simp] theorem dLen_frz (xs : List D) : dLen (.frz xs) = some (.sh (.int xs.length)) := rfl
def IWl (ns : List Int) (i : Nat) (Γ : Sl) : Prop := ∃ (b : Int) (gs : List Int), ∃ x y, Γ = [some (.sh (.frz (ns.map .int))), some (.sh (.int b)), some (.fl (gs.map .int)), some (.sh (.int 100000000000000000000000000000000000133)), x, y] ∧ 0 ≤ b ∧ b < 100000000000000000000000000000000000133 ∧ gs.length ≤ i
theorem well_spec {ns : List Int} {P : T → Sl → Prop} (hn : ns.length ≤ 63) (k : ∀ t Γ', Well 0 t → P t Γ') : wpc m__law_well 6 [.sh (.frz (ns.map .int))] P := by
  refine wpc_of ?_
  unfold m__law_well
  have h62 : small62 (ns.length : Int) := by unfold small62; omega
  simp -implicitDefEqProofs [start', rng1_int _ h62]
  refine ⟨by decide, for_spec _ (IWl ns) _ ⟨5, [], _, _, rfl, by decide, by decide, Nat.zero_le _⟩ ?_ ?_⟩
  · rintro i d Γ hi ⟨b, gs, x, y, rfl, hb0, hb1, hg⟩
    obtain ⟨rfl, hi2⟩ := ints_get hi
    have hi3 : i < ns.length := hi2
    obtain ⟨c, e, hc, _⟩ := atI_nat (xs := ns.map D.int) (r := (i : Int)) (by omega) (by rw [List.length_map]; omega)
    obtain ⟨cell, _, rfl⟩ := List.mem_map.mp hc
    have hgl : gs.length < line := by rw [line_eq]; omega
    refine ⟨_, rfl, ?_⟩
    have s0 := fm0 cell (b := 100000000000000000000000000000000000133) (by decide)
    have s1 := fm1 cell (b := 100000000000000000000000000000000000133) (by decide)
    have q0 := fm0 ((b + cell.fmod 100000000000000000000000000000000000133 + 15485863 * (i : Int)) ^ 3) (b := 100000000000000000000000000000000000133) (by decide)
    have q1 := fm1 ((b + cell.fmod 100000000000000000000000000000000000133 + 15485863 * (i : Int)) ^ 3) (b := 100000000000000000000000000000000000133) (by decide)
    simp -implicitDefEqProofs [e, hgl]
    generalize ((b + cell.fmod 100000000000000000000000000000000000133 + 15485863 * (i : Int)) ^ 3).fmod 100000000000000000000000000000000000133 = z at q0 q1 ⊢
    generalize cell.fmod 100000000000000000000000000000000000133 = y at s0 s1 ⊢
    refine ⟨mulOk_of (big_of (by omega) (by omega)) (big_of (by omega) (by omega)), powOk_of (big_of (by omega) (by omega)), by decide, ?_⟩
    split
    · refine ⟨by decide, ?_⟩
      have e9 : List.map D.int gs ++ [D.int (cell - 1000000000000000000)] = (gs ++ [cell - 1000000000000000000]).map D.int := by simp
      rw [e9]
      exact ⟨z, _, _, _, rfl, q0, q1, by rw [List.length_append]; simp; omega⟩
    · exact ⟨z, gs, _, _, rfl, q0, q1, by omega⟩
  · rintro Γ ⟨b, gs, x, y, rfl, hb0, hb1, hg⟩
    have h3 : 3 ≤ line := by rw [line_eq]; omega
    simp -implicitDefEqProofs [h3]
    exact k _ _ ⟨gs, b, 0, rfl, hb0, by omega, by decide, by decide⟩
def ILa (ns : List Int) (i : Nat) (Γ : Sl) : Prop := ∃ w x2 x3 x4 x5 x6 x7 x8 x9, Γ = [some (.sh (.frz (ns.map .int))), some w, x2, x3, x4, x5, x6, x7, x8, x9] ∧ Well (2000 * i) w
theorem law_true : TrueAt 63 N_law.length m_law := by
  intro ns hn
  have main : wpc m_law 10 [.sh (.frz (ns.map .int))] (fun t _ => t = .sh (.bl true)) := by
    refine wpc_of ?_
    unfold m_law
    have eb : (mSeq (mSetM [5, 6] (mConsT (shM (fz (mMake "Book" 5 m_Book___init__ (mCons (fz (mCall 6 m__law_alphabet [some 1, none] (mLent 1 (mCons (fz (mUn dLen (mVw 4))) (M.pure []))))) (mCons (fz (mUn dList (mVw 4))) (mCons (mVar 3) (M.pure []))))))) (mConsT (mCall 9 m__law_delay [none] (mCons (mFz 4) (M.pure []))) (M.pure []))))
 (mSeq (mIfS (mTe dNe (mTwo (fz (mUn dRepr (fz (mCall 8 m_delay [none] (mCons (mVar 5) (M.pure [])))))) (fz (mUn dRepr (mVw 6)))))
 (mRet (shM (M.pure (.bl false))))
 (M.pure .nx))
 (mSeq (mSetM [7, 8] (mConsT (mCall 4 m__law_sip [some 1, none] (mLent 1 (mCons (fz (mOp dAdd (mTwo (fz (mUn dLen (mVw 4))) (M.pure (.int 1))))) (M.pure [])))) (mConsT (mCall 5 m__law_mixed [some 1, none] (mLent 1 (mCons (mFz 4) (M.pure [])))) (M.pure []))))
 (mSeq (mIfS (mTe dLt (mTwo (fz (mUn dLen (mVw 4))) (M.pure (.int 4))))
 (mDrop (mMut 8 [] fIns (mCons (mVar 7) (mCons (fz (mCall 5 m__law_word [some 1, none, none, none] (mLent 1 (mCons (mVar 3) (mCons (M.pure (.int 1)) (mCons (M.pure (.int 5)) (M.pure []))))))) (M.pure [])))))
 (M.pure .nx))
 (mSeq (mIfS (mOr (mNot (mTr (fz (mCall 8 m__law_asked [some 1, none, none] (mLent 1 (mCons (mFz 8) (mCons (mVar 3) (M.pure [])))))))) (mTe dNe (mTwo (fz (mUn dRepr (fz (mCall 8 m_delay [none] (mCons (mVar 5) (M.pure [])))))) (fz (mUn dRepr (mVw 6))))))
 (mRet (shM (M.pure (.bl false))))
 (M.pure .nx))
 (mSeq (mSet 9 (mCall 6 m__law_more [some 1, none, none] (mLent 1 (mCons (mFz 4) (mCons (mVar 3) (M.pure []))))))
 (mSeq (mIfS (mOr (mTr (fz (mCall 3 m__law_is_plain [none] (mCons (mFz 9) (M.pure []))))) (mNot (mTr (fz (mCall 8 m__law_asked [some 1, none, none] (mLent 1 (mCons (mFz 9) (mCons (mVar 3) (M.pure [])))))))))
 (mRet (shM (M.pure (.bl false))))
 (M.pure .nx))
 (mIfS (mOr (mNot (mTr (fz (mCall 8 m__law_asked [some 1, none, none] (mLent 1 (mCons (fz (mCall 14 m__law_words [some 1, none, none, none] (mLent 1 (mCons (mVar 3) (mCons (M.pure (.int 6)) (mCons (M.pure (.int 5)) (M.pure []))))))) (mCons (mVar 3) (M.pure [])))))))) (mNot (mTr (fz (mCall 8 m__law_asked [some 1, none, none] (mLent 1 (mCons (mFz 4) (mCons (mVar 3) (M.pure [])))))))))
 (mRet (shM (M.pure (.bl false))))
 (M.pure .nx))))))))) = mBody := rfl
    rw [eb]
    simp -implicitDefEqProofs [start']
    refine well_spec hn fun w Γ1 hw => ?_
    refine ⟨log_lt (Nat.lt_of_lt_of_le (show 12 < 2 ^ 10 by decide) (Nat.pow_le_pow_right (by decide) (by decide))) (by decide), ?_⟩
    obtain ⟨m, em, hm0, hm2⟩ : ∃ m : Int, dMin2 [.int 2, .int ((ns.length : Int).fdiv 12)] = some (.sh (.int m)) ∧ 0 ≤ m ∧ m ≤ 2 := by
      refine ⟨_, rfl, ?_, ?_⟩ <;> rw [Int.fdiv_eq_ediv_of_nonneg _ (by decide)] <;> split <;> omega
    have h62 : small62 (1 + m) := by unfold small62; omega
    simp -implicitDefEqProofs [em, rng1_int _ h62]
    refine for_spec _ (ILa ns) _ ⟨w, _, _, _, _, _, _, _, _, rfl, hw⟩ ?_ ?_
    · rintro i d Γ hi ⟨w, x2, x3, x4, x5, x6, x7, x8, x9, rfl, hw⟩
      obtain ⟨rfl, hi2⟩ := ints_get hi
      refine ⟨_, rfl, ?_⟩
      have h3l : 3 ≤ line := by rw [line_eq]; omega
      simp -implicitDefEqProofs [h3l]
      refine sip_call hw (by omega) (by decide) (by decide) fun r1 w1 Γ1 p0 p1 hw1 => ?_
      obtain ⟨r, er, hr, hr3⟩ : ∃ r : Nat, (1 : Int) + r1 = r ∧ 1 ≤ r ∧ r ≤ 3 := ⟨(1 + r1).toNat, by omega, by omega, by omega⟩
      simp -implicitDefEqProofs [er]
      refine alphabet_spec hw1 (by omega) (by omega) fun abc w2 Γ2 ha hw2 => ?_
      have hal := ha.len
      have hal0 : abc ≠ [] := fun e => by rw [e] at hal; simp at hal; omega
      have hall : abc.length ≤ line := by rw [line_eq]; omega
      simp -implicitDefEqProofs [h3l]
      refine sip_call hw2 (by omega) (by decide) (by decide) fun r2 w3 Γ3 q0 q1 hw3 => ?_
      obtain ⟨most, em2, hms, hms5⟩ : ∃ r : Nat, atI [D.int 5, D.int 3, D.int 4] r2 = some (.int r) ∧ 2 ≤ r ∧ r ≤ 5 := by
        have : r2 = 0 ∨ r2 = 1 ∨ r2 = 2 := by omega
        rcases this with rfl | rfl | rfl
        · exact ⟨5, rfl, by decide, by decide⟩
        · exact ⟨3, rfl, by decide, by decide⟩
        · exact ⟨4, rfl, by decide, by decide⟩
      simp -implicitDefEqProofs [em2]
      refine words_spec (cap := 4) hw3 (by omega) hal0 (by omega) (by decide) (by decide) hms hms5 fun ws w4 Γ4 hrow hw4 => ?_
      have hrow5 : Row abc 4 5 ws := ⟨hrow.ne, hrow.len, fun w h => (hrow.wd w h).le hms5⟩
      simp -implicitDefEqProofs [hall]
      by_cases h1 : (1 : Int) < abc.length
      · simp -implicitDefEqProofs [h1]
        refine sip_call hw4 (by omega) (by decide) (by decide) fun r3 w5 Γ5 s0 s1 hw5 => ?_
        simp -implicitDefEqProofs
        split
        · refine late_spec hw5 (by omega) ha (by omega) hr3 fun vs w6 Γ6 hvs hw6 => ?_
          simp -implicitDefEqProofs
          refine body_spec hw6 (by omega) ha hr hr3 hvs fun w'' a3 a4 a5 a6 a7 a8 a9 hw'' => ?_
          exact ⟨w'', _, _, _, _, _, _, _, _, rfl, hw''.mono (by omega)⟩
        · refine body_spec hw5 (by omega) ha hr hr3 hrow5 fun w'' a3 a4 a5 a6 a7 a8 a9 hw'' => ?_
          exact ⟨w'', _, _, _, _, _, _, _, _, rfl, hw''.mono (by omega)⟩
      · simp -implicitDefEqProofs [h1]
        refine body_spec hw4 (by omega) ha hr hr3 hrow5 fun w'' a3 a4 a5 a6 a7 a8 a9 hw'' => ?_
        exact ⟨w'', _, _, _, _, _, _, _, _, rfl, hw''.mono (by omega)⟩
    · rintro Γ ⟨w, x2, x3, x4, x5, x6, x7, x8, x9, rfl, hw⟩
      simp -implicitDefEqProofs
  obtain ⟨t, Γ, e, rfl⟩ := main.go
  have e2 : N_law.length = 10 := rfl
  rw [e2]
  cases em : m_law (start' 10 [.sh (.frz (ns.map .int))]) with
  | stuck => rw [em] at e; cases e
  | ok o Γ2 =>
    rw [em] at e
    cases o with
    | rt t => cases e; exact ⟨_, rfl⟩
    | nx => cases e
    | bk => cases e
    | ct => cases e
end PM
set_option Elab.async false
set_option linter.all false
set_option maxRecDepth 100000
set_option maxHeartbeats 0
namespace PM
open PySem PySem.Spec PyProof.Rows L2 He
abbrev Rw : PySem.W.OpenRow := PySem.W.OpenLaw.row PySem.Challenge.rw_wholeworths_k68_whole_delays
abbrev hk : PySem.W.Hook := hookP 7 exB fn
def ob (s : PySem.W.SharedT) : AlP := obsPG 7 exB fn (HandSHeadRun.getT s)
theorem ob_eq (s : PySem.W.SharedT) : ob s = hk.obs s.abs := obsPG_eq (HandSHeadRun.getT_eq s)
def loose1 : List Str := (["_wall", "WorthError", "InvalidSigns", "UnknownSign", "Endless", "InvalidBook", "LETTERS", "checked_signs", "known", "Book", "rest_of", "first_rests"] : List Str) ++ (["dangling", "is_plain", "alike_letters", "alike_behind", "delay", "_law_well", "_law_sip", "_law_pick", "_law_alphabet", "_law_word", "_law_mixed", "_law_leaves"] : List Str) ++ (["_law_words", "_law_late_words", "_law_is_plain", "_law_alike", "_law_delay", "_law_stays", "_law_asked", "_law_more"] : List Str)
theorem run (w : World) : HandSHeadRun.RunEq Rw (PySem.W.view Rw.prog [36]) hk ob 4000 loose1 w := by
  intro os
  kernel_rfl
end PM
open PySem PySem.W PySem.Calls PyProof.Rows
theorem PM.fin (hm : PM.TrueAt 63 PM.N_law.length PM.m_law) : PySem.Challenge.rw_wholeworths_k68_whole_delays.Holds := by
  w_on; o_law
  refine HandSHeadRun.head_any (r := OpenLaw.row PySem.Challenge.rw_wholeworths_k68_whole_delays) (q := view (OpenLaw.row PySem.Challenge.rw_wholeworths_k68_whole_delays).prog [36]) (H := PM.hk) (ob := PM.ob) (M := 4000) (loose := PM.loose1) (d := HandSHeadRun.topDef (OpenLaw.row PySem.Challenge.rw_wholeworths_k68_whole_delays).prog 36) (kwd := []) PM.ob_eq
    (by kernel_rfl) (fun s => by kernel_rfl) PM.run (by kernel_rfl) (by kernel_rfl) (by kernel_rfl) (by rfl) (by first | assumption | decide +kernel) (by decide +kernel) ⟨rfl, rfl, rfl, rfl, rfl, by decide +kernel⟩ ?hw ?hc
  case hw => w_witness2
  case hc =>
    refine PM.walk_end (l := PySem.Challenge.rw_wholeworths_k68_whole_delays) (n := 63) (k := 21) (C := PM.C_law) (m := PM.m_law) rfl (by decide) (by kernel_rfl) ⟨rfl, by decide, by decide⟩ (by decide) ?F hm
    intro w mg fa h Y N hmg0
    have hmg : mg ("law" : PySem.Str) = some (.ref fa) := by
      have e : (HandSHeadRun.topDef (OpenLaw.row PySem.Challenge.rw_wholeworths_k68_whole_delays).prog 36).name = ("law" : PySem.Str) := by kernel_rfl
      rw [← e]
      exact hmg0
    obtain ⟨K, KX, c⟩ := Y
    refine ⟨K, KX, fun base hb nb => ?_⟩
    have kn : PM.Kn ⟨PM.P, w, K, mg, base⟩ := ⟨base, hb, nb, c⟩
    have e := (PM.Kn.g_law kn).symm.trans hmg
    have e2 : He.ga K "law" = fa := by injection Option.some.inj e
    rw [← e2]
    exact PM.fk_law kn
set_option maxRecDepth 100000 in
set_option maxHeartbeats 4000000 in
theorem PySem.Challenge.cw_wholeworths_k68_whole_delays_holds : PySem.Challenge.rw_wholeworths_k68_whole_delays.Holds := by
  exact PM.fin PM.law_true
